import PyProof.Rows.All
import Wide.All
import Open.Line
import Wide.FinOn
import Lean
import PySem.Challenge.RW_xm0587_01
open PySem PySem.W PyProof.Rows
set_option Elab.async false
namespace Mine
set_option maxRecDepth 100000

/-- abstract data -/
inductive D where
  | none
  | bool (b : Bool)
  | int (i : Int)
  | str (x : Str)
  | tup (ds : List D)
  | lst (ds : List D)
  | rng (k : Nat)
  | src

/-- the defs that are called -/
def defNames : List Str := ["_law_take", "_law_one", "_law_type", "_law_place", "_law_operand", "_law_value", "type_text", "place_text", "operand_text", "operands_text", "value_text", "block_name", "region_text", "parts_of",
  "_law_operands", "_law_callee", "_law_rvalue", "_law_statement", "_law_terminator", "function_text", "rvalue_text", "statement_text", "terminator_text", "_law_pool"]

/-- the fixed part of a run -/
structure Cx where
  prog : Program
  w : World
  p : Program
  loose : List Str
  mean : ExcName → Option Value
  mg : Str → Option Value
  mb : Str → Option Value
  h₀ : Heap
  top : Top p loose mean mg mb h₀
  free : ∀ x, x ∈ (["len", "str", "isinstance", "tuple", "range", "bool"] : List Str) → mg x = Option.none
  known : ∀ f, f ∈ defNames → ∃ a o fd, mg f = some (.ref a) ∧ h₀.get? a = some o ∧ o.data = .func fd
  src : Option Addr

inductive Rep (src : Option Addr) (X : Addr → Prop) (h : Heap) : Value → D → Prop
  | none : Rep src X h .none .none
  | bool (b : Bool) : Rep src X h (.bool b) (.bool b)
  | int (i : Int) (t : Tok) : Rep src X h (.int i t) (.int i)
  | str (x : Str) (t : Tok) : Rep src X h (.str x t) (.str x)
  | tup {a : Addr} {vs : List Value} {ds : List D} : ¬ X a → h.IsTuple a vs.toArray → vs.length = ds.length → (∀ (i : Nat) v d, vs[i]? = some v → ds[i]? = some d → Rep src X h v d) → Rep src X h (.ref a) (.tup ds)
  | lst {a : Addr} {vs : List Value} {ds : List D} : ¬ X a → h.IsList a vs.toArray → vs.length = ds.length → (∀ (i : Nat) v d, vs[i]? = some v → ds[i]? = some d → Rep src X h v d) → Rep src X h (.ref a) (.lst ds)
  | rng {a : Addr} {k : Nat} {t u v : Tok} : ¬ X a → IsRange h a 0 (k : Int) 1 t u v → Rep src X h (.ref a) (.rng k)
  | src {a : Addr} : src = some a → Rep src X h (.ref a) .src

noncomputable def RepL (src : Option Addr) (X : Addr → Prop) (h : Heap) (vs : List Value) (ds : List D) : Prop :=
  vs.length = ds.length ∧ ∀ (i : Nat) v d, vs[i]? = some v → ds[i]? = some d → Rep src X h v d

theorem RepL.nil {src X h} : RepL src X h [] [] := ⟨rfl, fun i v d hv => by simp at hv⟩
theorem RepL.cons {src X h v d vs ds} (h1 : Rep src X h v d) (h2 : RepL src X h vs ds) : RepL src X h (v :: vs) (d :: ds) := by
  refine ⟨by simp [h2.1], fun i v' d' hv hd => ?_⟩
  cases i with
  | zero => simp at hv hd; subst hv hd; exact h1
  | succ i => simp at hv hd; exact h2.2 i v' d' hv hd
theorem RepL.append {src X h} : ∀ {vs ds vs' ds'}, RepL src X h vs ds → RepL src X h vs' ds' → RepL src X h (vs ++ vs') (ds ++ ds')
  | [], [], _, _, _, h2 => by simpa using h2
  | [], _ :: _, _, _, h1, _ => by have := h1.1; simp at this
  | _ :: _, [], _, _, h1, _ => by have := h1.1; simp at this
  | v :: vs, d :: ds, _, _, h1, h2 => by
    have t : RepL src X h vs ds := ⟨by have := h1.1; simpa using this, fun i v d hv hd => h1.2 (i + 1) v d (by simpa using hv) (by simpa using hd)⟩
    exact RepL.cons (h1.2 0 v d rfl rfl) (RepL.append t h2)
theorem RepL.head {src X h v d vs ds} (h1 : RepL src X h (v :: vs) (d :: ds)) : Rep src X h v d := h1.2 0 v d rfl rfl
theorem RepL.tail {src X h v d vs ds} (h1 : RepL src X h (v :: vs) (d :: ds)) : RepL src X h vs ds :=
  ⟨by have := h1.1; simpa using this, fun i v d hv hd => h1.2 (i + 1) v d (by simpa using hv) (by simpa using hd)⟩
theorem RepL.inv_nil {src X h vs} (h1 : RepL src X h vs []) : vs = [] := by have := h1.1; simpa using this
theorem RepL.inv_cons {src X h vs d ds} (h1 : RepL src X h vs (d :: ds)) : ∃ v vs', vs = v :: vs' ∧ Rep src X h v d ∧ RepL src X h vs' ds := by
  cases vs with
  | nil => have := h1.1; simp at this
  | cons v vs => exact ⟨v, vs, rfl, h1.head, h1.tail⟩

/-- what keeps a represented value represented -/
theorem Rep.step {src X X' h h'} (hX : ∀ a, X' a → X a ∨ h.get? a = Option.none)
    (hk : ∀ a o, ¬ X a → h.get? a = some o → (∀ es ep, o.data ≠ .dict es ep) → h'.get? a = some o) {v d} (r : Rep src X h v d) : Rep src X' h' v d := by
  induction r with
  | none => exact .none
  | bool b => exact .bool b
  | int i t => exact .int i t
  | str x t => exact .str x t
  | src e => exact .src e
  | @tup a vs ds hx ht hl _ ih =>
    obtain ⟨o, ho, hc, n, hd⟩ := ht
    refine .tup (fun q => ?_) ⟨o, hk a o hx ho (by rw [hd]; intro _ _ e; cases e), hc, n, hd⟩ hl ih
    rcases hX a q with q | q
    · exact hx q
    · rw [q] at ho; cases ho
  | @lst a vs ds hx ht hl _ ih =>
    obtain ⟨o, ho, hc, n, hd⟩ := ht
    refine .lst (fun q => ?_) ⟨o, hk a o hx ho (by rw [hd]; intro _ _ e; cases e), hc, n, hd⟩ hl ih
    rcases hX a q with q | q
    · exact hx q
    · rw [q] at ho; cases ho
  | @rng a k t u v hx hr =>
    refine .rng (t := t) (u := u) (v := v) (fun q => ?_) (hk a _ hx hr (by intro _ _ e; cases e))
    rcases hX a q with q | q
    · exact hx q
    · unfold IsRange at hr; rw [q] at hr; cases hr

theorem RepL.step {src X X' h h'} (hX : ∀ a, X' a → X a ∨ h.get? a = Option.none)
    (hk : ∀ a o, ¬ X a → h.get? a = some o → (∀ es ep, o.data ≠ .dict es ep) → h'.get? a = some o) {vs ds} (r : RepL src X h vs ds) : RepL src X' h' vs ds :=
  ⟨r.1, fun i v d hv hd => (r.2 i v d hv hd).step hX hk⟩

noncomputable def SrcAt (h : Heap) (a : Addr) : Prop := ∃ n m t u, h.IsList a #[.int n t, .int m u] ∧ 0 ≤ n ∧ 0 ≤ m ∧ m < 2147483647

structure Base (c : Cx) (X : Addr → Prop) (h : Heap) : Prop where
  keep : ∀ b o, c.h₀.get? b = some o → h.get? b = some o
  src : ∀ a, c.src = some a → c.h₀.get? a = none ∧ X a ∧ SrcAt h a
  live : ∀ a, X a → ∃ o, h.get? a = some o

noncomputable abbrev Names := List (Str × NameKind)
noncomputable abbrev Sig := Str → Option D

structure EnvS (env : Env) (nm : Names) : Prop where
  kind : env.scope.kind = .function
  names : env.scope.names = nm
  globals : env.globals = mainGlobals
  builtins : env.builtins = builtinsNs

structure St (c : Cx) (X : Addr → Prop) (env : Env) (σ : Sig) (h : Heap) : Prop extends Base c X h where
  fresh : c.h₀.get? env.locals = none
  loc : ∃ m, h.Ns env.locals m ∧ ∀ x d, env.kindOf x = some .local → σ x = some d → ∃ v, m x = some v ∧ Rep c.src X h v d
  cel : ∀ x d, env.kindOf x = some .cell → σ x = some d → ∃ cl v, env.cells.lookup x = some cl ∧ h.IsCell cl (some v) ∧ Rep c.src X h v d

/-- everything stays but the source and the frame's own names -/
noncomputable def Ext (c : Cx) (L : Addr) (h h' : Heap) : Prop := ∀ b o, h.get? b = some o → c.src ≠ some b → b ≠ L → h'.get? b = some o
noncomputable def ExtC (c : Cx) (h h' : Heap) : Prop := ∀ b o, h.get? b = some o → c.src ≠ some b → h'.get? b = some o

theorem Ext.refl {c L h} : Ext c L h h := fun _ _ e _ _ => e
theorem Ext.trans {c L h1 h2 h3} (x : Ext c L h1 h2) (y : Ext c L h2 h3) : Ext c L h1 h3 := fun b o e h1 h2 => y b o (x b o e h1 h2) h1 h2
theorem ExtC.refl {c h} : ExtC c h h := fun _ _ e _ => e
theorem ExtC.trans {c h1 h2 h3} (x : ExtC c h1 h2) (y : ExtC c h2 h3) : ExtC c h1 h3 := fun b o e h1 => y b o (x b o e h1) h1
theorem ExtC.ext {c L h h'} (x : ExtC c h h') : Ext c L h h' := fun b o e h1 _ => x b o e h1
theorem ExtC.of_keep {c h h'} (hk : ∀ b o, h.get? b = some o → h'.get? b = some o) : ExtC c h h' := fun b o e _ => hk b o e

theorem ns_not {h : Heap} {L : Addr} {m} (hn : h.Ns L m) {a o} (e : h.get? a = some o) (hd : ∀ es ep, o.data ≠ .dict es ep) : a ≠ L := by
  rintro rfl
  obtain ⟨o', es, ep, ho, hd', _⟩ := hn
  rw [e] at ho; cases ho
  exact hd es ep hd'

theorem Rep.ext {c : Cx} {X env σ h h' v d} (S : St c X env σ h) (x : Ext c env.locals h h') (r : Rep c.src X h v d) : Rep c.src X h' v d := by
  obtain ⟨m, hn, _⟩ := S.loc
  refine r.step (fun a q => .inl q) fun a o hX e hd => x a o e (fun q => hX (S.src a q).2.1) (ns_not hn e hd)
theorem RepL.ext {c : Cx} {X env σ h h' v d} (S : St c X env σ h) (x : Ext c env.locals h h') (r : RepL c.src X h v d) : RepL c.src X h' v d :=
  ⟨r.1, fun i v d hv hd => (r.2 i v d hv hd).ext S x⟩
theorem Rep.extC {c : Cx} {X h h' v d} (B : Base c X h) (x : ExtC c h h') (r : Rep c.src X h v d) : Rep c.src X h' v d :=
  r.step (fun a q => .inl q) fun a o hX e _ => x a o e fun q => hX (B.src a q).2.1
theorem RepL.extC {c : Cx} {X h h' v d} (B : Base c X h) (x : ExtC c h h') (r : RepL c.src X h v d) : RepL c.src X h' v d :=
  ⟨r.1, fun i v d hv hd => (r.2 i v d hv hd).extC B x⟩

theorem src_not {c : Cx} {X h} (B : Base c X h) {a o} (e : h.get? a = some o) (hd : ∀ xs n, o.data ≠ .seq xs n) : c.src ≠ some a := by
  intro q
  obtain ⟨_, _, n, m, t, u, ⟨o', ho, _, k, hd'⟩, _⟩ := B.src a q
  rw [e] at ho; cases ho
  exact hd _ _ hd'

/-- a growing step -/
theorem Base.grow {c : Cx} {X h h'} (B : Base c X h) (hk : ∀ b o, h.get? b = some o → h'.get? b = some o) : Base c X h' where
  keep := fun b o e => hk _ _ (B.keep b o e)
  src := fun a e => by
    obtain ⟨h1, h2, n, m, t, u, ⟨o, ho, hr⟩, h3⟩ := B.src a e
    exact ⟨h1, h2, n, m, t, u, ⟨o, hk _ _ ho, hr⟩, h3⟩
  live := fun a q => let ⟨o, e⟩ := B.live a q; ⟨o, hk _ _ e⟩

theorem St.grow {c : Cx} {X env σ h h'} (S : St c X env σ h) (hk : ∀ b o, h.get? b = some o → h'.get? b = some o) : St c X env σ h' where
  toBase := S.toBase.grow hk
  fresh := S.fresh
  loc := by
    obtain ⟨m, hn, hv⟩ := S.loc
    refine ⟨m, hn.keeps hk, fun x d hx hd => ?_⟩
    obtain ⟨v, h1, h2⟩ := hv x d hx hd
    exact ⟨v, h1, h2.extC S.toBase (.of_keep hk)⟩
  cel := fun x d hx hd => by
    obtain ⟨cl, v, h1, h2, h3⟩ := S.cel x d hx hd
    exact ⟨cl, v, h1, h2.keeps hk, h3.extC S.toBase (.of_keep hk)⟩

/-- behind a call: all stays but the source -/
theorem St.callC {c : Cx} {X env σ h h'} (S : St c X env σ h) (B : Base c X h') (x : ExtC c h h') : St c X env σ h' where
  toBase := B
  fresh := S.fresh
  loc := by
    obtain ⟨m, hn, hv⟩ := S.loc
    obtain ⟨o, es, ep, ho, hd, hr⟩ := id hn
    refine ⟨m, ⟨o, es, ep, x _ _ ho (src_not S.toBase ho (by rw [hd]; intro _ _ e; cases e)), hd, hr⟩, fun y d hx hd => ?_⟩
    obtain ⟨v, h1, h2⟩ := hv y d hx hd
    exact ⟨v, h1, h2.extC S.toBase x⟩
  cel := fun y d hx hd => by
    obtain ⟨cl, v, h1, ⟨o, ho, hd'⟩, h3⟩ := S.cel y d hx hd
    exact ⟨cl, v, h1, ⟨o, x _ _ ho (src_not S.toBase ho (by rw [hd']; intro _ _ e; cases e)), hd'⟩, h3.extC S.toBase x⟩

structure Room (A : Around) (n : Nat) : Prop where
  hd : A.handled = none
  depth : A.depth + n < recursionLimit
  units : A.units + 8 * n < cLine

noncomputable def EvalOk (c : Cx) (n : Nat) (nm : Names) (σ : Sig) (e : Expr) (Q : D → Prop) : Prop :=
  ∀ (X : Addr → Prop) (A : Around) (env : Env) (s : Shared) (Qm : Value → Shared → Prop) (E : Value → Shared → Prop), EnvS env nm → Room A n → St c X env σ s.heap →
    (∀ v d h' tk, St c X env σ h' → Ext c env.locals s.heap h' → Rep c.src X h' v d → Q d → Qm v { s with heap := h', toks := tk }) →
    wpAny (model c.prog c.w) A (eval e env) Qm E s

noncomputable def TestOk (c : Cx) (n : Nat) (nm : Names) (σ : Sig) (e : Expr) (Q : Bool → Prop) : Prop :=
  ∀ (X : Addr → Prop) (A : Around) (env : Env) (s : Shared) (Qm : Bool → Shared → Prop) (E : Value → Shared → Prop), EnvS env nm → Room A n → St c X env σ s.heap →
    (∀ b h' tk, St c X env σ h' → Ext c env.locals s.heap h' → Q b → Qm b { s with heap := h', toks := tk }) →
    wpAny (model c.prog c.w) A (isTrue e env (eval e env)) Qm E s

noncomputable def EvalsOk (c : Cx) (n : Nat) (nm : Names) (σ : Sig) (es : List Expr) (Q : List D → Prop) : Prop :=
  ∀ (X : Addr → Prop) (A : Around) (env : Env) (s : Shared) (pos : Pos) (Qm : List Value → Shared → Prop) (E : Value → Shared → Prop), EnvS env nm → Room A n → St c X env σ s.heap →
    (∀ vs ds h' tk, St c X env σ h' → Ext c env.locals s.heap h' → RepL c.src X h' vs ds → Q ds → Qm vs { s with heap := h', toks := tk }) →
    wpAny (model c.prog c.w) A (spliced (backTo pos (starEach es env))) Qm E s

noncomputable def ExecOk (c : Cx) (n : Nat) (nm : Names) (σ : Sig) (st : Stmt) (Qn : Sig → Prop) (Qr : D → Prop) : Prop :=
  ∀ (X : Addr → Prop) (A : Around) (env : Env) (s : Shared) (Qm : Flow → Shared → Prop) (E : Value → Shared → Prop), EnvS env nm → Room A n → St c X env σ s.heap →
    (∀ σ' h' tk, St c X env σ' h' → Ext c env.locals s.heap h' → Qn σ' → Qm .next { s with heap := h', toks := tk }) →
    (∀ σ' v d h' tk, St c X env σ' h' → Ext c env.locals s.heap h' → Rep c.src X h' v d → Qr d → Qm (.ret v) { s with heap := h', toks := tk }) →
    wpAny (model c.prog c.w) A (exec st env) Qm E s

noncomputable def ExecsOk (c : Cx) (n : Nat) (nm : Names) (σ : Sig) (sts : List Stmt) (Qn : Sig → Prop) (Qr : D → Prop) : Prop :=
  ∀ (X : Addr → Prop) (A : Around) (env : Env) (s : Shared) (Qm : Flow → Shared → Prop) (E : Value → Shared → Prop), EnvS env nm → Room A n → St c X env σ s.heap →
    (∀ σ' h' tk, St c X env σ' h' → Ext c env.locals s.heap h' → Qn σ' → Qm .next { s with heap := h', toks := tk }) →
    (∀ σ' v d h' tk, St c X env σ' h' → Ext c env.locals s.heap h' → Rep c.src X h' v d → Qr d → Qm (.ret v) { s with heap := h', toks := tk }) →
    wpAny (model c.prog c.w) A (execs sts env) Qm E s

/-- a call of the def f -/
structure CallOk (c : Cx) (n : Nat) (f : Str) (ds : List D) (Q : D → Prop) : Prop where
  known : ∃ a o fd, c.mg f = some (.ref a) ∧ c.h₀.get? a = some o ∧ o.data = .func fd
  run : ∀ (a : Addr), c.mg f = some (.ref a) → ∀ (X : Addr → Prop) (A : Around) (s : Shared) (vs : List Value) (Qm : Value → Shared → Prop) (E : Value → Shared → Prop), Room A n → Base c X s.heap → RepL c.src X s.heap vs ds →
    (∀ v d h' tk, Base c X h' → ExtC c s.heap h' → Rep c.src X h' v d → Q d → Qm v { s with heap := h', toks := tk }) →
    wpAny (model c.prog c.w) A (call (.ref a) vs) Qm E s

theorem CallOk.mono {c n f ds Q Q'} (h : CallOk c n f ds Q) (hq : ∀ d, Q d → Q' d) : CallOk c n f ds Q' :=
  ⟨h.known, fun a ha X A s vs Qm E hr hb hv hQ => h.run a ha X A s vs Qm E hr hb hv fun v d h' tk b x r q => hQ v d h' tk b x r (hq d q)⟩
theorem Room.le {A n n'} (h : Room A n) (hn : n' ≤ n) : Room A n' := ⟨h.hd, by have := h.depth; omega, by have := h.units; omega⟩
theorem CallOk.le {c n n' f ds Q} (h : CallOk c n f ds Q) (hn : n ≤ n') : CallOk c n' f ds Q :=
  ⟨h.known, fun a ha X A s vs Qm E hr hb hv hQ => h.run a ha X A s vs Qm E (hr.le hn) hb hv hQ⟩

theorem EvalOk.mono {c n nm σ e Q Q'} (h : EvalOk c n nm σ e Q) (hq : ∀ d, Q d → Q' d) : EvalOk c n nm σ e Q' :=
  fun X A env s Qm E h1 h2 h3 hQ => h X A env s Qm E h1 h2 h3 fun v d h' tk s x r q => hQ v d h' tk s x r (hq d q)
theorem TestOk.mono {c n nm σ e Q Q'} (h : TestOk c n nm σ e Q) (hq : ∀ d, Q d → Q' d) : TestOk c n nm σ e Q' :=
  fun X A env s Qm E h1 h2 h3 hQ => h X A env s Qm E h1 h2 h3 fun d h' tk s x q => hQ d h' tk s x (hq d q)
theorem EvalsOk.mono {c n nm σ e Q Q'} (h : EvalsOk c n nm σ e Q) (hq : ∀ d, Q d → Q' d) : EvalsOk c n nm σ e Q' :=
  fun X A env s pos Qm E h1 h2 h3 hQ => h X A env s pos Qm E h1 h2 h3 fun v d h' tk s x r q => hQ v d h' tk s x r (hq d q)
theorem ExecOk.mono {c n nm σ e Qn Qn' Qr Qr'} (h : ExecOk c n nm σ e Qn Qr) (hq : ∀ d, Qn d → Qn' d) (hr : ∀ d, Qr d → Qr' d) : ExecOk c n nm σ e Qn' Qr' :=
  fun X A env s Qm E h1 h2 h3 hQ hR => h X A env s Qm E h1 h2 h3 (fun d h' tk s x q => hQ d h' tk s x (hq d q)) fun σ' v d h' tk s x r q => hR σ' v d h' tk s x r (hr d q)
theorem ExecsOk.mono {c n nm σ e Qn Qn' Qr Qr'} (h : ExecsOk c n nm σ e Qn Qr) (hq : ∀ d, Qn d → Qn' d) (hr : ∀ d, Qr d → Qr' d) : ExecsOk c n nm σ e Qn' Qr' :=
  fun X A env s Qm E h1 h2 h3 hQ hR => h X A env s Qm E h1 h2 h3 (fun d h' tk s x q => hQ d h' tk s x (hq d q)) fun σ' v d h' tk s x r q => hR σ' v d h' tk s x r (hr d q)
end Mine
namespace Mine
set_option maxRecDepth 100000

/-! expressions -/
section
variable {c : Cx} {n : Nat} {nm : Names} {σ : Sig} {Q : D → Prop}

theorem EnvS.kindOf {env nm} (h : EnvS env nm) (x : Str) : env.kindOf x = nm.lookup x := by
  unfold Env.kindOf; rw [h.names]

theorem EvalOk.str {x k pos} (h : Q (.str x)) : EvalOk c n nm σ (.Constant (.str x) k pos) Q :=
  fun _ _ _ s _ _ _ _ hS hQ => Calls.Constant_str (hQ _ _ s.heap _ hS .refl (.str _ _) h)
theorem EvalOk.int {i k pos} (h : Q (.int i)) : EvalOk c n nm σ (.Constant (.int i) k pos) Q :=
  fun _ _ _ s _ _ _ _ hS hQ => wpAny_Constant_int (hQ _ _ s.heap _ hS .refl (.int _ _) h)
theorem EvalOk.bool {b k pos} (h : Q (.bool b)) : EvalOk c n nm σ (.Constant (.bool b) k pos) Q :=
  fun X A env s Qm E _ _ hS hQ => by
    have e : eval (.Constant (.bool b) k pos) env = pure (.bool b) := rfl
    rw [e]; exact wpAny_pure (hQ _ _ s.heap s.toks hS .refl (.bool _) h)
theorem EvalOk.none {k pos} (h : Q .none) : EvalOk c n nm σ (.Constant .none k pos) Q :=
  fun X A env s Qm E _ _ hS hQ => by
    have e : eval (.Constant .none k pos) env = pure .none := rfl
    rw [e]; exact wpAny_pure (hQ _ _ s.heap s.toks hS .refl .none h)

theorem EvalOk.name {x pos d} (hk : nm.lookup x = some .local ∨ nm.lookup x = some .cell) (hd : σ x = some d) (hb : (x == ("__debug__" : Str)) = false) (h : Q d) : EvalOk c n nm σ (.Name x pos) Q :=
  fun X A env s Qm E hE _ hS hQ => by
    refine wpAny_Name ?_ hb
    rcases hk with hk | hk
    · obtain ⟨m, hn, hv⟩ := hS.loc
      have hk' : env.kindOf x = some .local := (hE.kindOf x).trans hk
      obtain ⟨v, h1, h2⟩ := hv x d hk' hd
      exact wpAny_loadName_local hE.kind hk' hn h1 (hQ v d s.heap s.toks hS .refl h2 h)
    · have hk' : env.kindOf x = some .cell := (hE.kindOf x).trans hk
      obtain ⟨cl, v, h1, h2, h3⟩ := hS.cel x d hk' hd
      exact wpAny_loadName_cell hE.kind hk' h1 h2 (hQ v d s.heap s.toks hS .refl h3 h)

theorem name_global {x pos v} {X : Addr → Prop} {A : Around} {env : Env} {s : Shared} {Qm : Value → Shared → Prop} {E : Value → Shared → Prop} (hE : EnvS env nm) (hS : St c X env σ s.heap)
    (hk : nm.lookup x = some .globalImplicit) (hv : c.mg x = some v) (hb : (x == ("__debug__" : Str)) = false) (h : Qm v s) :
    wpAny (model c.prog c.w) A (eval (.Name x pos) env) Qm E s := by
  refine Calls.Name_function_global hE.kind ((hE.kindOf x).trans hk) (Calls.loadGlobal_global (mg := c.mg) ?_ hv h) hb
  rw [hE.globals]; exact c.top.g.keeps hS.keep
theorem name_builtin {x pos v} {X : Addr → Prop} {A : Around} {env : Env} {s : Shared} {Qm : Value → Shared → Prop} {E : Value → Shared → Prop} (hE : EnvS env nm) (hS : St c X env σ s.heap)
    (hk : nm.lookup x = some .globalImplicit) (hv : c.mg x = Option.none) (hbv : bootBuiltins x = some v) (hn : x ≠ ("__name__" : Str)) (hb : (x == ("__debug__" : Str)) = false) (h : Qm v s) :
    wpAny (model c.prog c.w) A (eval (.Name x pos) env) Qm E s := by
  refine Calls.Name_function_global hE.kind ((hE.kindOf x).trans hk) (Calls.loadGlobal_builtin (mg := c.mg) (mb := c.mb) ?_ hv ?_ ((c.top.builtins x hn).trans hbv) h) hb
  · rw [hE.globals]; exact c.top.g.keeps hS.keep
  · rw [hE.builtins]; exact c.top.b.keeps hS.keep

theorem EvalOk.binop {l op r pos} (R : D → D → (D → Prop) → Prop)
    (hR : ∀ (X : Addr → Prop) (A : Around) (env : Env) (s : Shared) (Qm : Value → Shared → Prop) (E : Value → Shared → Prop) va vb a b Q, EnvS env nm → Room A n → St c X env σ s.heap → Rep c.src X s.heap va a → Rep c.src X s.heap vb b → R a b Q →
      (∀ v d h' tk, St c X env σ h' → Ext c env.locals s.heap h' → Rep c.src X h' v d → Q d → Qm v { s with heap := h', toks := tk }) → wpAny (model c.prog c.w) A (binaryOp op va vb) Qm E s)
    (h : EvalOk c n nm σ l (fun a => EvalOk c n nm σ r (fun b => R a b Q))) : EvalOk c n nm σ (.BinOp l op r pos) Q :=
  fun X A env s Qm E hE hA hS hQ => by
    refine wpAny_BinOp (h X A env s _ E hE hA hS fun va a h1 tk1 S1 x1 r1 q1 => ?_)
    refine q1 X A env _ _ E hE hA S1 fun vb b h2 tk2 S2 x2 r2 q2 => ?_
    exact hR X A env _ _ E va vb a b Q hE hA S2 (r1.ext S1 x2) r2 q2 fun v d h3 tk3 S3 x3 r3 q3 => hQ v d h3 tk3 S3 ((x1.trans x2).trans x3) r3 q3

theorem push_keep {h : Heap} (o : Obj) : ∀ b o', h.get? b = some o' → (h.push o).get? b = some o' := fun _ _ e => Heap.get?_push_of_some _ e

theorem new_not {X : Addr → Prop} {h : Heap} (B : Base c X h) : ¬ X h.objs.size := fun q => by
  obtain ⟨o, e⟩ := B.live _ q
  exact absurd (Heap.lt_size e) (Nat.lt_irrefl _)

theorem new_tup {X : Addr → Prop} {h : Heap} {vs ds} (B : Base c X h) (r : RepL c.src X h vs ds) :
    Rep c.src X (h.push { cls := .type "tuple", data := .seq vs.toArray }) (.ref h.objs.size) (.tup ds) :=
  have r' := r.extC B (.of_keep (push_keep { cls := .type "tuple", data := .seq vs.toArray }))
  .tup (new_not B) ⟨_, Heap.get?_push_size _ rfl, rfl, _, rfl⟩ r'.1 r'.2
theorem new_lst {X : Addr → Prop} {h : Heap} {vs ds} (B : Base c X h) (r : RepL c.src X h vs ds) :
    Rep c.src X (h.push { cls := .type "list", data := .seq vs.toArray }) (.ref h.objs.size) (.lst ds) :=
  have r' := r.extC B (.of_keep (push_keep { cls := .type "list", data := .seq vs.toArray }))
  .lst (new_not B) ⟨_, Heap.get?_push_size _ rfl, rfl, _, rfl⟩ r'.1 r'.2

/-- sums -/
noncomputable def addD : D → D → (D → Prop) → Prop
  | .str x, .str y, Q => x.length + y.length ≤ sizeLine ∧ Q (.str (x ++ y))
  | .lst xs, .lst ys, Q => xs.length + ys.length ≤ sizeLine ∧ Q (.lst (xs ++ ys))
  | .int a, .int b, Q => Q (.int (a + b))
  | _, _, _ => False

theorem EvalOk.add {l r pos} (h : EvalOk c n nm σ l (fun a => EvalOk c n nm σ r (fun b => addD a b Q))) : EvalOk c n nm σ (.BinOp l .Add r pos) Q := by
  refine EvalOk.binop addD ?_ h
  intro X A env s Qm E va vb a b Q hE hA hS ra rb hr hQ
  cases ra with
  | str x t =>
    cases rb with
    | str y u => exact add_str (fun t' tk => hQ _ _ s.heap _ hS .refl (.str _ _) hr.2) hr.1
    | _ => exact hr.elim
  | int i t =>
    cases rb with
    | int j u => exact P.add_int (hQ _ _ s.heap _ hS .refl (.int _ _) hr)
    | _ => exact hr.elim
  | @lst la vs ds hx hl hn hi =>
    cases rb with
    | @lst lb ws es hx' hl' hn' hi' =>
      obtain ⟨m, hns, _⟩ := hS.loc
      obtain ⟨⟨cls, dd, data, sl⟩, ho, hc, k, hd⟩ := id hl
      obtain ⟨⟨cls2, dd2, data2, sl2⟩, ho2, hc2, k2, hd2⟩ := id hl'
      simp only at hc hd hc2 hd2
      subst hc hd hc2 hd2
      refine concat_meets ⟨_, ho, rfl⟩ ⟨_, ho2, rfl⟩ noFill_list_add seq_list_add PySem.F.slot_list_add PySem.F.entry_list_add (PySem.F.args_list_add_2 _ _)
        (list_addW la lb vs.toArray ws.toArray k k2 dd dd2 sl sl2 (by simpa [hn, hn'] using hr.1)) ⟨ho, ho2, ?_⟩
      rw [show vs.toArray ++ ws.toArray = (vs ++ ws).toArray by simp]
      refine hQ _ _ _ s.toks (hS.grow (push_keep _)) (ExtC.of_keep (push_keep _)).ext (new_lst hS.toBase (RepL.append ⟨hn, hi⟩ ⟨hn', hi'⟩)) hr.2
    | _ => exact hr.elim
  | _ => exact hr.elim

noncomputable def subI : D → D → (D → Prop) → Prop
  | .int a, .int b, Q => Q (.int (a - b))
  | _, _, _ => False
theorem EvalOk.sub {l r pos} (h : EvalOk c n nm σ l (fun a => EvalOk c n nm σ r (fun b => subI a b Q))) : EvalOk c n nm σ (.BinOp l .Sub r pos) Q := by
  refine EvalOk.binop subI ?_ h
  intro X A env s Qm E va vb a b Q hE hA hS ra rb hr hQ
  cases ra with
  | int i t =>
    cases rb with
    | int j u => exact P.sub_int (hQ _ _ s.heap _ hS .refl (.int _ _) hr)
    | _ => exact hr.elim
  | _ => exact hr.elim

theorem EvalOk.neg {i k p pos} (h : Q (.int (-i))) : EvalOk c n nm σ (.UnaryOp .USub (.Constant (.int i) k p) pos) Q :=
  fun X A env s Qm E hE hA hS hQ => by
    rw [arm_eval_UnaryOp]
    refine wpAny_bind (wpAny_Constant_int ?_)
    refine wpAny_bind (wpAny_standAt (wpAny_holding ?_))
    exact P.neg_int (hQ _ _ s.heap _ hS .refl (.int _ _) h)

theorem EvalOk.ifExp {t a b pos} (h : TestOk c n nm σ t (fun x => if x then EvalOk c n nm σ a Q else EvalOk c n nm σ b Q)) : EvalOk c n nm σ (.IfExp t a b pos) Q :=
  fun X A env s Qm E hE hA hS hQ => by
    rw [arm_eval_IfExp]
    refine wpAny_bind (h X A env s _ E hE hA hS fun x h1 tk1 S1 x1 q1 => ?_)
    cases x with
    | true =>
      simp only [if_true] at q1 ⊢
      exact q1 X A env _ _ E hE hA S1 fun v d h' tk S' x' r' q' => hQ v d h' tk S' (x1.trans x') r' q'
    | false =>
      simp only [Bool.false_eq_true, if_false] at q1 ⊢
      exact q1 X A env _ _ E hE hA S1 fun v d h' tk S' x' r' q' => hQ v d h' tk S' (x1.trans x') r' q'

theorem starEach_plain {env : Env} {e : Expr} {es : List Expr} (h : ∀ x p, e ≠ .Starred x p) : starEach (e :: es) env = (false, eval e env) :: starEach es env := by
  cases e <;> first | rfl | exact absurd rfl (h _ _)

theorem EvalsOk.nil {Q : List D → Prop} (h : Q []) : EvalsOk c n nm σ [] Q :=
  fun _ _ _ s _ _ _ _ _ hS hQ => Calls.spliced_nil (hQ _ _ s.heap s.toks hS .refl .nil h)
theorem EvalsOk.cons {e es} {Q : List D → Prop} (hp : ∀ x p, e ≠ .Starred x p) (h : EvalOk c n nm σ e (fun d => EvalsOk c n nm σ es (fun ds => Q (d :: ds)))) : EvalsOk c n nm σ (e :: es) Q :=
  fun X A env s pos Qm E hE hA hS hQ => by
    rw [starEach_plain hp]
    refine Calls.spliced_cons (h X A env s _ E hE hA hS fun v d h1 tk1 S1 x1 r1 q1 => ?_)
    exact q1 X A env _ pos _ E hE hA S1 fun vs ds h2 tk2 S2 x2 r2 q2 => hQ _ _ h2 tk2 S2 (x1.trans x2) (.cons (r1.ext S1 x2) r2) q2

theorem EvalOk.tuple {es k pos} (h : EvalsOk c n nm σ es (fun ds => ds.length ≤ sizeLine ∧ Q (.tup ds))) : EvalOk c n nm σ (.Tuple es k pos) Q :=
  fun X A env s Qm E hE hA hS hQ => by
    refine wpAny_Tuple_spliced (h X A env s pos _ E hE hA hS fun vs ds h1 tk1 S1 x1 r1 q1 => ⟨r1.1 ▸ q1.1, ?_⟩)
    exact hQ _ _ _ tk1 (S1.grow (push_keep _)) (x1.trans (ExtC.of_keep (push_keep _)).ext) (new_tup S1.toBase r1) q1.2
theorem EvalOk.list {es pos} (h : EvalsOk c n nm σ es (fun ds => ds.length ≤ sizeLine ∧ Q (.lst ds))) : EvalOk c n nm σ (.List es pos) Q :=
  fun X A env s Qm E hE hA hS hQ => by
    refine wpAny_List_spliced (h X A env s pos _ E hE hA hS fun vs ds h1 tk1 S1 x1 r1 q1 => ⟨r1.1 ▸ q1.1, ?_⟩)
    exact hQ _ _ _ tk1 (S1.grow (push_keep _)) (x1.trans (ExtC.of_keep (push_keep _)).ext) (new_lst S1.toBase r1) q1.2

/-- an item -/
noncomputable def itemD : D → D → (D → Prop) → Prop
  | .tup ds, .int k, Q => -(2 ^ 63) ≤ k ∧ k < 2 ^ 63 ∧ ∃ j d, seqIndex? k ds.length = some j ∧ ds[j]? = some d ∧ Q d
  | .lst ds, .int k, Q => 0 ≤ k ∧ k < 2 ^ 63 ∧ ∃ d, ds[k.toNat]? = some d ∧ Q d
  | .src, .int k, Q => if k = 0 then ∀ i, 0 ≤ i → Q (.int i) else if k = 1 then ∀ i, 0 ≤ i → i < 2147483647 → Q (.int i) else False
  | _, _, _ => False

theorem subscripted_plain {e : Expr} {o i : Value} (h : ∀ l u st p, e ≠ .Slice l u st p) : subscripted e false o i = operate [o, i] (getItem o i) := by
  cases e <;> first | rfl | exact absurd rfl (h _ _ _ _)

theorem EvalOk.item {v e pos} (hp : ∀ l u st p, e ≠ .Slice l u st p) (h : EvalOk c n nm σ v (fun a => EvalOk c n nm σ e (fun b => itemD a b Q))) : EvalOk c n nm σ (.Subscript v e pos) Q :=
  fun X A env s Qm E hE hA hS hQ => by
    refine Subscript_ (h X A env s _ E hE hA hS fun va a h1 tk1 S1 x1 r1 q1 => ?_)
    refine q1 X A env _ _ E hE hA S1 fun vb b h2 tk2 S2 x2 r2 q2 => ?_
    replace r1 := r1.ext S1 x2
    cases r1 with
    | @tup ta vs ds hx ht hn hi =>
      cases r2 with
      | int k u =>
        obtain ⟨k1, k2, j, d, hj, hd, q⟩ := q2
        have hjl : j < vs.length := by rw [hn]; exact (List.getElem?_eq_some_iff.mp hd).1
        have hv : vs[j]? = some vs[j] := List.getElem?_eq_getElem hjl
        exact item_tupleT (l := vs) ht k1 k2 (by rw [hn]; exact hj) hv (hQ _ _ h2 tk2 S2 (x1.trans x2) (hi _ _ _ hv hd) q) (subscripted_plain hp)
      | _ => exact q2.elim
    | @lst ta vs ds hx ht hn hi =>
      cases r2 with
      | int k u =>
        obtain ⟨k1, k2, d, hd, q⟩ := q2
        have hjl : k.toNat < vs.length := by rw [hn]; exact (List.getElem?_eq_some_iff.mp hd).1
        have hv : vs[k.toNat]? = some vs[k.toNat] := List.getElem?_eq_getElem hjl
        exact tail_any ht.typeIs slot_list_getitem.lookup (wpAny_getItem_list ht k1 k2 (by simpa using hv) (hQ _ _ h2 tk2 S2 (x1.trans x2) (hi _ _ _ hv hd) q)) (subscripted_plain hp)
      | _ => exact q2.elim
    | @src a e =>
      cases r2 with
      | int k u =>
        obtain ⟨_, _, n0, m0, t0, u0, hl, b1, b2, b3⟩ := S2.src a e
        simp only [itemD] at q2
        split at q2
        · rename_i hk
          subst hk
          exact tail_any hl.typeIs slot_list_getitem.lookup (wpAny_getItem_list hl (by decide) (by decide) rfl (hQ _ _ h2 tk2 S2 (x1.trans x2) (.int _ _) (q2 n0 b1))) (subscripted_plain hp)
        · split at q2
          · rename_i hk
            subst hk
            exact tail_any hl.typeIs slot_list_getitem.lookup (wpAny_getItem_list hl (by decide) (by decide) rfl (hQ _ _ h2 tk2 S2 (x1.trans x2) (.int _ _) (q2 m0 b2 b3))) (subscripted_plain hp)
          · exact q2.elim
      | _ => exact q2.elim
    | _ => exact q2.elim
end

/-! tests -/
section
variable {c : Cx} {n : Nat} {nm : Names} {σ : Sig} {Q : Bool → Prop}

noncomputable def cmpD : CmpOp → D → D → Option Bool
  | .Eq, .str x, .str y => some (x == y)
  | .Eq, .int x, .int y => some (x == y)
  | .NotEq, .str x, .str y => some (x != y)
  | .NotEq, .int x, .int y => some (x != y)
  | .NotEq, .tup ds, .tup [] => some (ds.length != 0)
  | .NotEq, .lst ds, .lst [] => some (ds.length != 0)
  | .Is, d, .none => (match d with | .none => some true | _ => some false)
  | .IsNot, d, .none => (match d with | .none => some false | _ => some true)
  | .Lt, .int x, .int y => some (decide (x < y))
  | .Gt, .int x, .int y => some (decide (x > y))
  | .GtE, .int x, .int y => some (decide (x ≥ y))
  | _, _, _ => Option.none

theorem rep_none {src X h v d} (r : Rep src X h v d) : (v == Value.none) = (match d with | .none => true | _ => false) := by
  cases r <;> rfl
end
end Mine
namespace Mine
set_option maxRecDepth 100000

/-! tests -/
section
variable {c : Cx} {n : Nat} {nm : Names} {σ : Sig} {Q : Bool → Prop}

theorem cmp_ok {op a b va vb r} {X : Addr → Prop} {A : Around} {s : Shared} {Qm : Value → Shared → Prop} {E : Value → Shared → Prop} (hA : Room A n)
    (ra : Rep c.src X s.heap va a) (rb : Rep c.src X s.heap vb b) (hr : cmpD op a b = some r) (h : Qm (.bool r) s) : wpAny (model c.prog c.w) A (compareOp op va vb) Qm E s := by
  have hu : A.units < cLine := by have := hA.units; omega
  cases op with
  | Eq =>
    cases ra with
    | str x t => cases rb with
      | str y u => cases hr; exact eq_str h
      | _ => cases hr
    | int x t => cases rb with
      | int y u => cases hr; exact P.eq_int h
      | _ => cases hr
    | _ => cases hr
  | NotEq =>
    cases ra with
    | str x t => cases rb with
      | str y u => cases hr; exact ne_str h
      | _ => cases hr
    | int x t => cases rb with
      | int y u => cases hr; exact P.ne_int h
      | _ => cases hr
    | @tup la vs ds hx ht hn hi => cases rb with
      | @tup lb ws es hx' ht' hn' hi' =>
        cases es with
        | nil =>
          cases hr
          have hw : ws = [] := by simpa using hn'
          subst hw
          have := SeqAt.RcNeAt.tuples (A := A) (s := s) (e := fun _ => true) ht ht' hu (fun j _ h2 => absurd h2 (by simp)) c.prog c.w E Qm
          refine this ?_
          have e : (!((List.range (min vs.toArray.size ([] : List Value).toArray.size)).all (fun _ => true) && vs.toArray.size == ([] : List Value).toArray.size)) = (ds.length != 0) := by
            simp [hn, bne]
          rw [e]; exact h
        | cons _ _ => cases hr
      | _ => cases hr
    | @lst la vs ds hx ht hn hi => cases rb with
      | @lst lb ws es hx' ht' hn' hi' =>
        cases es with
        | nil =>
          cases hr
          have hw : ws = [] := by simpa using hn'
          subst hw
          by_cases h0 : ds.length = 0
          · have hv : vs = [] := by rw [h0] at hn; simpa using hn
            subst hv
            have := SeqAt.RcNeAt.lists (A := A) (s := s) (e := fun _ => true) ht ht' rfl hu (fun j _ h2 => absurd h2 (by simp)) c.prog c.w E Qm
            refine this ?_
            have e : (!(List.range ([] : List Value).toArray.size).all fun _ => true) = (ds.length != 0) := by simp [h0, bne]
            rw [e]; exact h
          · have := SeqAt.RcNeAt.lists_lengths (A := A) (s := s) ht ht' (by simpa [hn] using h0) hu c.prog c.w E Qm
            refine this ?_
            have e : true = (ds.length != 0) := by simp [h0]
            rw [e]; exact h
        | cons _ _ => cases hr
      | _ => cases hr
    | _ => cases hr
  | Is =>
    cases rb with
    | none =>
      refine is_none_gen ?_
      rw [rep_none ra]
      cases ra <;> (cases hr; exact h)
    | _ => cases hr
  | IsNot =>
    cases rb with
    | none =>
      refine isnot_none_gen ?_
      rw [rep_none ra]
      cases ra <;> (cases hr; exact h)
    | _ => cases hr
  | Lt =>
    cases ra with
    | int x t => cases rb with
      | int y u => cases hr; exact P.lt_int h
      | _ => cases hr
    | _ => cases hr
  | Gt =>
    cases ra with
    | int x t => cases rb with
      | int y u => cases hr; exact P.gt_int h
      | _ => cases hr
    | _ => cases hr
  | GtE =>
    cases ra with
    | int x t => cases rb with
      | int y u => cases hr; exact P.ge_int h
      | _ => cases hr
    | _ => cases hr
  | _ => cases hr

noncomputable def strsOf : List D → Option (List Str)
  | [] => some []
  | .str x :: r => (strsOf r).map (x :: ·)
  | _ :: _ => Option.none

theorem strsOf_are {src X h} : ∀ {ds : List D} {vs ys}, RepL src X h vs ds → strsOf ds = some ys → StrsAre vs ys
  | [], vs, ys, r, e => by cases e; rw [r.inv_nil]; exact .nil
  | d :: ds, vs, ys, r, e => by
    obtain ⟨v, vs', rfl, h1, h2⟩ := r.inv_cons
    cases h1 with
    | str x t =>
      simp only [strsOf] at e
      cases h : strsOf ds with
      | none => rw [h] at e; cases e
      | some zs => rw [h] at e; cases e; exact .cons _ _ (strsOf_are h2 h)
    | _ => cases e

/-- a comparison: In, or one of cmpD's -/
noncomputable def cmpIn : CmpOp → D → D → (Bool → Prop) → Prop
  | .In, .str x, .tup ds, Q => ∃ ys, strsOf ds = some ys ∧ Q (ys.any (· == x))
  | op, a, b, Q => ∃ r, cmpD op a b = some r ∧ Q r

theorem TestOk.cmp {l op r pos} (hm : behindInMarks op r = false) (h : EvalOk c n nm σ l (fun a => EvalOk c n nm σ r (fun b => cmpIn op a b Q))) : TestOk c n nm σ (.Compare l [op] [r] pos) Q :=
  fun X A env s Qm E hE hA hS hQ => by
    refine wpAny_isTrue_Compare1 (h X A env s _ E hE hA hS fun va a h1 tk1 S1 x1 r1 q1 => ?_) hm
    refine q1 X A env _ _ E hE hA S1 fun vb b h2 tk2 S2 x2 r2 q2 => ?_
    replace r1 := r1.ext S1 x2
    have fin : ∀ r, cmpD op a b = some r → Q r → wpAny (model c.prog c.w) A (compareOp op va vb) (fun v s₃ => wpAny (model c.prog c.w) A (truthy v) Qm E s₃) E { s with heap := h2, toks := tk2 } := fun r e q =>
      cmp_ok hA r1 r2 e (wpAny_truthy_bool (hQ r h2 tk2 S2 (x1.trans x2) q))
    by_cases ho : op = .In
    · subst ho
      cases r1 with
      | str x t =>
        cases r2 with
        | @tup tb ws es hx' ht' hn' hi' =>
          obtain ⟨ys, e, q⟩ := q2
          exact in_tuple_strs (ys := ys) ht' (strsOf_are ⟨hn', hi'⟩ e) (wpAny_truthy_bool (hQ _ h2 tk2 S2 (x1.trans x2) q))
        | _ => obtain ⟨r, e, q⟩ := q2; cases e
      | _ => obtain ⟨r, e, q⟩ := q2; cases e
    · have : ∃ r, cmpD op a b = some r ∧ Q r := by
        cases op <;> first | exact absurd rfl ho | exact q2
      obtain ⟨r, e, q⟩ := this
      exact fin r e q

theorem TestOk.or_nil {pos} (h : Q false) : TestOk c n nm σ (.BoolOp .Or [] pos) Q :=
  fun _ _ _ s _ _ _ _ hS hQ => isTrue_or_nil (hQ false s.heap s.toks hS .refl h)
theorem TestOk.or_cons {x xs pos} (h : TestOk c n nm σ x (fun b => if b then Q true else TestOk c n nm σ (.BoolOp .Or xs pos) Q)) : TestOk c n nm σ (.BoolOp .Or (x :: xs) pos) Q :=
  fun X A env s Qm E hE hA hS hQ => by
    show wpAny _ A (do
      match BoolOp.Or, ← isTrue x env (eval x env) with
      | .And, false => pure false
      | .Or, true => pure true
      | _, _ => allTrue .Or xs env) Qm E s
    refine wpAny_bind (h X A env s _ E hE hA hS fun b h1 tk1 S1 x1 q1 => ?_)
    cases b with
    | true => exact wpAny_pure (hQ true h1 tk1 S1 x1 (by simpa using q1))
    | false =>
      have q1' : TestOk c n nm σ (.BoolOp .Or xs pos) Q := by simpa using q1
      exact q1' X A env _ Qm E hE hA S1 fun b h2 tk2 S2 x2 q2 => hQ b h2 tk2 S2 (x1.trans x2) q2

/-- any other test: a bool -/
noncomputable def plainTest : Expr → Bool
  | .UnaryOp .Not _ _ => false
  | .BoolOp .. => false
  | .IfExp .. => false
  | .Compare .. => false
  | _ => true
theorem isTrue_other {e : Expr} {env : Env} {whole : Sem Value} (h : plainTest e = true) : isTrue e env whole = (do let v ← whole; standAt e.pos; holding [v] (truthy v)) := by
  cases e with
  | UnaryOp op x p => cases op <;> first | rfl | cases h
  | BoolOp => cases h
  | IfExp => cases h
  | Compare => cases h
  | _ => rfl
theorem TestOk.plain {e} (hp : plainTest e = true) (h : EvalOk c n nm σ e (fun d => match d with | .bool b => Q b | _ => False)) : TestOk c n nm σ e Q :=
  fun X A env s Qm E hE hA hS hQ => by
    refine isTrue_plain (h X A env s _ E hE hA hS fun v d h1 tk1 S1 x1 r1 q1 => ?_) (isTrue_other hp)
    cases r1 with
    | bool b => exact wpAny_truthy_bool (hQ b h1 tk1 S1 x1 q1)
    | _ => exact q1.elim
end

/-! calls -/
section
variable {c : Cx} {n : Nat} {nm : Names} {σ : Sig} {Q : D → Prop}

theorem EvalOk.call {f p e es pos} (hk : nm.lookup f = some .globalImplicit) (hb : (f == ("__debug__" : Str)) = false) (hp : ∀ x p, e ≠ .Starred x p)
    (hkn : ∃ a o fd, c.mg f = some (.ref a) ∧ c.h₀.get? a = some o ∧ o.data = .func fd)
    (h : EvalsOk c n nm σ (e :: es) (fun ds => CallOk c n f ds Q)) : EvalOk c n nm σ (.Call (.Name f p) (e :: es) [] pos) Q :=
  fun X A env s Qm E hE hA hS hQ => by
    obtain ⟨a, o, fd, hm, ho, hd⟩ := hkn
    refine wpAny_Call_Name_kw (name_global hE hS hk hm hb ?_)
    show wpAny _ A (callWith pos (.ref a) [] (backTo pos (starEach (e :: es) env)) []) _ _ _
    refine Calls.callWith_function (o := o) (fd := fd) ?_
    have hs : backTo pos (starEach (e :: es) env) = (false, eval e env) :: backTo pos (starEach es env) := by rw [starEach_plain hp]; rfl
    rw [hs]
    refine Calls.evalArgs_plain ?_
    rw [← hs]
    refine h X A env s pos _ E hE hA hS fun vs ds h1 tk1 S1 x1 r1 q1 => ⟨⟨S1.keep _ _ ho, hd⟩, ?_⟩
    refine q1.run a hm X A _ vs Qm E hA S1.toBase r1 fun v d h2 tk2 B2 x2 r2 q2 => ?_
    exact hQ v d h2 tk2 (S1.callC B2 x2) (x1.trans x2.ext) r2 q2

theorem spliced_one {env : Env} {e : Expr} {pos : Pos} (hp : ∀ x p, e ≠ .Starred x p) : backTo pos (starEach [e] env) = [(false, eval e env)] := by
  rw [starEach_plain hp]; rfl

theorem blt_none {x : Str} (h : x ∈ (["len", "str", "isinstance", "tuple", "range", "bool"] : List Str)) : c.mg x = Option.none := c.free x h

theorem EvalOk.type1 {f p e pos T} (hk : nm.lookup f = some .globalImplicit) (hb : (f == ("__debug__" : Str)) = false) (hn : f ≠ ("__name__" : Str)) (hp : ∀ x p, e ≠ .Starred x p)
    (hf : c.mg f = Option.none) (ht : bootBuiltins f = some (.type T)) (R : D → (D → Prop) → Prop)
    (hR : ∀ (X : Addr → Prop) (A : Around) (env : Env) (s : Shared) (Qm : Value → Shared → Prop) (E : Value → Shared → Prop) va a Q, EnvS env nm → Room A n → St c X env σ s.heap → Rep c.src X s.heap va a → R a Q →
      (∀ v d h' tk, St c X env σ h' → Ext c env.locals s.heap h' → Rep c.src X h' v d → Q d → Qm v { s with heap := h', toks := tk }) → wpAny (model c.prog c.w) A (PySem.call (.type T) [va]) Qm E s)
    (h : EvalOk c n nm σ e (fun a => R a Q)) : EvalOk c n nm σ (.Call (.Name f p) [e] [] pos) Q :=
  fun X A env s Qm E hE hA hS hQ => by
    refine wpAny_Call_Name_kw (name_builtin hE hS hk hf ht hn hb ?_)
    show wpAny _ A (callWith pos (.type T) [] (backTo pos (starEach [e] env)) []) _ _ _
    rw [spliced_one hp]
    refine PyProof.Rows.callWith_type rfl (Calls.evalArgs_plain (Calls.spliced_cons (h X A env s _ E hE hA hS fun v d h1 tk1 S1 x1 r1 q1 => ?_)))
    refine Calls.spliced_nil ?_
    exact hR X A env _ _ E v d Q hE hA S1 r1 q1 fun v' d' h2 tk2 S2 x2 r2 q2 => hQ v' d' h2 tk2 S2 (x1.trans x2) r2 q2

theorem EvalOk.builtin1 {f p e pos id} (hk : nm.lookup f = some .globalImplicit) (hb : (f == ("__debug__" : Str)) = false) (hn : f ≠ ("__name__" : Str)) (hp : ∀ x p, e ≠ .Starred x p)
    (hf : c.mg f = Option.none) (ht : bootBuiltins f = some (.builtin id)) (R : D → (D → Prop) → Prop)
    (hR : ∀ (X : Addr → Prop) (A : Around) (env : Env) (s : Shared) (Qm : Value → Shared → Prop) (E : Value → Shared → Prop) va a Q, EnvS env nm → Room A n → St c X env σ s.heap → Rep c.src X s.heap va a → R a Q →
      (∀ v d h' tk, St c X env σ h' → Ext c env.locals s.heap h' → Rep c.src X h' v d → Q d → Qm v { s with heap := h', toks := tk }) → wpAny (model c.prog c.w) A (PySem.call (.builtin id) [va]) Qm E s)
    (h : EvalOk c n nm σ e (fun a => R a Q)) : EvalOk c n nm σ (.Call (.Name f p) [e] [] pos) Q :=
  fun X A env s Qm E hE hA hS hQ => by
    refine wpAny_Call_Name_kw (name_builtin hE hS hk hf ht hn hb ?_)
    show wpAny _ A (callWith pos (.builtin id) [] (backTo pos (starEach [e] env)) []) _ _ _
    rw [spliced_one hp]
    refine Calls.callWith_builtin rfl (Calls.evalArgs_plain (Calls.spliced_cons (h X A env s _ E hE hA hS fun v d h1 tk1 S1 x1 r1 q1 => ?_)))
    refine Calls.spliced_nil ?_
    exact hR X A env _ _ E v d Q hE hA S1 r1 q1 fun v' d' h2 tk2 S2 x2 r2 q2 => hQ v' d' h2 tk2 S2 (x1.trans x2) r2 q2

theorem log_small {i : Int} (h : i.natAbs < 2 ^ 64) : i.natAbs.log2 < 1920 := by
  by_cases h0 : i.natAbs = 0
  · rw [h0]; decide
  · have := (Nat.log2_lt h0).mpr h
    omega
/-- str -/
noncomputable def strD : D → (D → Prop) → Prop
  | .int i, Q => i.natAbs < 2 ^ 64 ∧ Q (.str (Str.ofString (toString i)))
  | _, _ => False
theorem EvalOk.strOf {p e pos} (hk : nm.lookup (Str.ofString "str") = some .globalImplicit) (hp : ∀ x p, e ≠ .Starred x p) (h : EvalOk c n nm σ e (fun a => strD a Q)) : EvalOk c n nm σ (.Call (.Name "str" p) [e] [] pos) Q := by
  refine EvalOk.type1 hk (by decide) (by decide) hp (c.free _ (by decide)) PyProof.Rows.boot_str strD ?_ h
  intro X A env s Qm E va a Q hE hA hS ra hr hQ
  cases ra with
  | int i t => exact P.str_of_int (log_small hr.1) (hQ _ _ s.heap _ hS .refl (.str _ _) hr.2)
  | _ => exact hr.elim

/-- len -/
noncomputable def lenD : D → (D → Prop) → Prop
  | .tup ds, Q => ds.length ≤ 1000000 ∧ Q (.int ds.length)
  | .lst ds, Q => ds.length ≤ 1000000 ∧ Q (.int ds.length)
  | _, _ => False
theorem EvalOk.lenOf {p e pos} (hk : nm.lookup (Str.ofString "len") = some .globalImplicit) (hp : ∀ x p, e ≠ .Starred x p) (h : EvalOk c n nm σ e (fun a => lenD a Q)) : EvalOk c n nm σ (.Call (.Name "len" p) [e] [] pos) Q := by
  refine EvalOk.builtin1 hk (by decide) (by decide) hp (c.free _ (by decide)) boot_len lenD ?_ h
  intro X A env s Qm E va a Q hE hA hS ra hr hQ
  cases ra with
  | @tup la vs ds hx ht hn hi => 
    refine len_tuple ht (by simp [hn]; have := hr.1; omega) ?_
    exact hQ _ _ s.heap _ hS .refl (by simpa [hn] using Rep.int _ _) hr.2
  | @lst la vs ds hx ht hn hi => 
    refine len_list ht (by simp [hn]; have := hr.1; omega) ?_
    exact hQ _ _ s.heap _ hS .refl (by simpa [hn] using Rep.int _ _) hr.2
  | _ => exact hr.elim

/-- tuple of a list -/
noncomputable def tupD : D → (D → Prop) → Prop
  | .lst ds, Q => ds.length ≤ sizeLine ∧ Q (.tup ds)
  | _, _ => False
theorem EvalOk.tupOf {p e pos} (hk : nm.lookup (Str.ofString "tuple") = some .globalImplicit) (hp : ∀ x p, e ≠ .Starred x p) (h : EvalOk c n nm σ e (fun a => tupD a Q)) : EvalOk c n nm σ (.Call (.Name "tuple" p) [e] [] pos) Q := by
  refine EvalOk.type1 hk (by decide) (by decide) hp (c.free _ (by decide)) PyProof.Rows.boot_tuple tupD ?_ h
  intro X A env s Qm E va a Q hE hA hS ra hr hQ
  cases ra with
  | @lst la vs ds hx ht hn hi =>
    refine call_tuple_list ht (fun h' hk => ?_) (by simpa [hn] using hr.1)
    have S' := hS.grow hk
    have r' : RepL c.src X h' vs ds := RepL.extC hS.toBase (.of_keep hk) ⟨hn, hi⟩
    exact hQ _ _ _ s.toks (S'.grow (push_keep _)) (ExtC.of_keep fun b o e => push_keep _ b o (hk b o e)).ext (new_tup S'.toBase r') hr.2
  | _ => exact hr.elim

/-- range -/
noncomputable def rngD : D → (D → Prop) → Prop
  | .int i, Q => 0 ≤ i ∧ Q (.rng i.toNat)
  | _, _ => False
theorem EvalOk.rngOf {p e pos} (hk : nm.lookup (Str.ofString "range") = some .globalImplicit) (hp : ∀ x p, e ≠ .Starred x p) (h : EvalOk c n nm σ e (fun a => rngD a Q)) : EvalOk c n nm σ (.Call (.Name "range" p) [e] [] pos) Q := by
  refine EvalOk.type1 hk (by decide) (by decide) hp (c.free _ (by decide)) boot_range rngD ?_ h
  intro X A env s Qm E va a Q hE hA hS ra hr hQ
  cases ra with
  | int i t =>
    refine call_range_1 ?_
    refine hQ _ _ _ _ (hS.grow (push_keep _)) (ExtC.of_keep (push_keep _)).ext (.rng (new_not hS.toBase) (t := s.toks) (u := t) (v := s.toks + 1) ?_) hr.2
    rw [Int.toNat_of_nonneg hr.1]
    exact IsRange.new ..
  | _ => exact hr.elim

/-- join -/
noncomputable def joinD (x : Str) : D → (D → Prop) → Prop
  | .lst ds, Q => ∃ ys, strsOf ds = some ys ∧ (ys.map (·.length)).sum + ys.length * x.length ≤ 16777216 ∧ Q (.str (Str.join x ys))
  | _, _ => False
theorem EvalOk.join {x k p apos e pos} (hp : ∀ x p, e ≠ .Starred x p) (hl : (apos.endLine == pos.line) = true) (h : EvalOk c n nm σ e (fun a => joinD x a Q)) :
    EvalOk c n nm σ (.Call (.Attribute (.Constant (.str x) k p) "join" apos) [e] [] pos) Q :=
  fun X A env s Qm E hE hA hS hQ => by
    refine Call_method1 rfl (by rw [starEach_plain hp]; rfl) hl ?_
    refine Calls.Constant_str ?_
    refine ⟨"str", "str.join", F.plainAttrs_str, F.slot_str_join, F.type_str_join, typeIs_str _ _ _, (fun _ e => nomatch e), ?_⟩
    refine Calls.callWith_builtin rfl (Calls.evalArgs_plain (Calls.spliced_cons (h X A env { s with toks := s.toks + 1 } _ E hE hA hS fun v d h1 tk1 S1 x1 r1 q1 => ?_)))
    refine Calls.spliced_nil ?_
    cases r1 with
    | @lst la vs ds hx ht hn hi =>
      obtain ⟨ys, e1, e2, q⟩ := q1
      refine join_list (ys := ys) ht (strsOf_are ⟨hn, hi⟩ e1) e2 fun t' k => ?_
      have e : Txt.join x ys = Str.join x ys := StrLaws.glued_eq_join ..
      rw [e]
      exact hQ _ _ h1 k S1 x1 (.str _ _) q
    | _ => exact q1.elim

/-- isinstance -/
inductive Ty where
  | bool | str | tuple
noncomputable def Ty.text : Ty → String
  | .bool => "bool" | .str => "str" | .tuple => "tuple"
noncomputable def isiD : D → Ty → Option Bool
  | .bool _, .bool => some true
  | .int _, .bool => some false
  | .str _, .bool => some false
  | .tup _, .bool => some false
  | .int _, .str => some false
  | .str _, .str => some true
  | .int _, .tuple => some false
  | .tup _, .tuple => some true
  | _, _ => Option.none
theorem EvalOk.isi {p e T tp pos} (ty : Ty) (hT : T = Str.ofString ty.text) (hk : nm.lookup (Str.ofString "isinstance") = some .globalImplicit) (hkT : nm.lookup T = some .globalImplicit) (hp : ∀ x p, e ≠ .Starred x p)
    (h : EvalOk c n nm σ e (fun a => ∃ b, isiD a ty = some b ∧ Q (.bool b))) : EvalOk c n nm σ (.Call (.Name "isinstance" p) [e, .Name T tp] [] pos) Q :=
  fun X A env s Qm E hE hA hS hQ => by
    refine wpAny_Call_Name_kw (name_builtin hE hS hk (c.free _ (by decide)) boot_isinstance (by decide) (by decide) ?_)
    show wpAny _ A (callWith pos (.builtin "isinstance") [] (backTo pos (starEach [e, .Name T tp] env)) []) _ _ _
    have hs : backTo pos (starEach [e, .Name T tp] env) = [(false, eval e env), (false, eval (.Name T tp) env)] := by rw [starEach_plain hp]; rfl
    rw [hs]
    refine Calls.callWith_builtin rfl (Calls.evalArgs_plain (Calls.spliced_cons (h X A env s _ E hE hA hS fun v d h1 tk1 S1 x1 r1 q1 => ?_)))
    have hf : c.mg T = Option.none := c.free T (by subst hT; cases ty <;> decide)
    have hbt : bootBuiltins T = some (.type ty.text) := by subst hT; cases ty <;> first | exact PyProof.Rows.boot_bool | exact PyProof.Rows.boot_str | exact PyProof.Rows.boot_tuple
    refine Calls.spliced_cons (name_builtin hE S1 hkT hf hbt (by subst hT; cases ty <;> decide) (by subst hT; cases ty <;> decide) (Calls.spliced_nil ?_))
    obtain ⟨b, e1, q⟩ := q1
    have fin := hQ (.bool b) _ h1 tk1 S1 x1 (.bool b) q
    have fin' := hQ (.bool b) _ h1 (tk1 + 1) S1 x1 (.bool b) q
    show wpAny _ A (PySem.call (.builtin "isinstance") [v, .type ty.text]) _ _ _
    cases r1 with
    | bool b' => cases ty <;> first | (cases e1; exact IsiPair.bool_bool fin) | cases e1
    | int i t => cases ty <;> first | (cases e1; exact IsiPair.int_bool fin') | (cases e1; exact IsiPair.int_str fin') | (cases e1; exact IsiPair.int_tuple fin')
    | str i t => cases ty <;> first | (cases e1; exact IsiPair.str_bool fin') | (cases e1; exact IsiPair.str_str fin) | cases e1
    | @tup la vs ds hx ht hn hi =>
      obtain ⟨o, ho, hc, _⟩ := ht
      cases ty <;> first | (cases e1; exact IsiPair.tuple_bool ho hc fin') | (cases e1; exact IsiPair.tuple_tuple ho hc fin) | cases e1
    | _ => cases ty <;> cases e1
end
end Mine
namespace Mine
set_option maxRecDepth 100000

/-! statements -/
noncomputable def upd (σ : Sig) (x : Str) (d : D) : Sig := fun y => if y = x then some d else σ y

section
variable {c : Cx} {n : Nat} {nm : Names} {σ : Sig} {Qn : Sig → Prop} {Qr : D → Prop}

theorem ExecsOk.nil (h : Qn σ) : ExecsOk c n nm σ [] Qn Qr :=
  fun _ _ _ s _ _ _ _ hS hQ _ => wpAny_execs_nil (hQ σ s.heap s.toks hS .refl h)
theorem ExecsOk.cons {st sts} (h : ExecOk c n nm σ st (fun σ' => ExecsOk c n nm σ' sts Qn Qr) Qr) : ExecsOk c n nm σ (st :: sts) Qn Qr :=
  fun X A env s Qm E hE hA hS hQ hR => by
    refine wpAny_execs_cons (h X A env s _ E hE hA hS (fun σ' h1 tk1 S1 x1 q1 => ?_) fun σ' v d h1 tk1 S1 x1 r1 q1 => hR σ' v d h1 tk1 S1 x1 r1 q1)
    exact q1 X A env _ Qm E hE hA S1 (fun σ2 h2 tk2 S2 x2 q2 => hQ σ2 h2 tk2 S2 (x1.trans x2) q2) fun σ2 v d h2 tk2 S2 x2 r2 q2 => hR σ2 v d h2 tk2 S2 (x1.trans x2) r2 q2
theorem ExecOk.ret {e pos} (h : EvalOk c n nm σ e Qr) : ExecOk c n nm σ (.Return (some e) pos) Qn Qr :=
  fun X A env s Qm E hE hA hS _ hR => wpAny_Return_some (h X A env s _ E hE hA hS fun v d h1 tk1 S1 x1 r1 q1 => hR σ v d h1 tk1 S1 x1 r1 q1)
theorem ExecOk.ite {t a b pos} (h : TestOk c n nm σ t (fun x => if x then ExecsOk c n nm σ a Qn Qr else ExecsOk c n nm σ b Qn Qr)) : ExecOk c n nm σ (.If t a b pos) Qn Qr :=
  fun X A env s Qm E hE hA hS hQ hR => by
    refine wpAny_If (h X A env s _ E hE hA hS fun x h1 tk1 S1 x1 q1 => ?_)
    cases x with
    | true =>
      simp only [if_true] at q1 ⊢
      exact q1 X A env _ Qm E hE hA S1 (fun σ2 h2 tk2 S2 x2 q2 => hQ σ2 h2 tk2 S2 (x1.trans x2) q2) fun σ2 v d h2 tk2 S2 x2 r2 q2 => hR σ2 v d h2 tk2 S2 (x1.trans x2) r2 q2
    | false =>
      simp only [Bool.false_eq_true, if_false] at q1 ⊢
      exact q1 X A env _ Qm E hE hA S1 (fun σ2 h2 tk2 S2 x2 q2 => hQ σ2 h2 tk2 S2 (x1.trans x2) q2) fun σ2 v d h2 tk2 S2 x2 r2 q2 => hR σ2 v d h2 tk2 S2 (x1.trans x2) r2 q2

/-- the frame's own namespace alone turned -/
theorem St.store {X : Addr → Prop} {env : Env} {h h' : Heap} {x : Str} {v : Value} {d : D} {m : Str → Option Value} (hS : St c X env σ h) (hn : h.Ns env.locals m)
    (hv : ∀ y e, env.kindOf y = some .local → σ y = some e → ∃ u, m y = some u ∧ Rep c.src X h u e)
    (hn' : h'.Ns env.locals (fun y => if y = x then some v else m y)) (hs : Heap.SameBut env.locals h h') (hk : env.kindOf x = some .local) (r : Rep c.src X h v d) :
    St c X env (upd σ x d) h' ∧ Ext c env.locals h h' := by
  have keep : ∀ b o, b ≠ env.locals → h.get? b = some o → h'.get? b = some o := fun b o hb e => (hs.2 b hb).trans e
  have hext : Ext c env.locals h h' := fun b o e _ hb => keep b o hb e
  refine ⟨{ keep := fun b o e => ?_, src := fun a e => ?_, live := fun a q => ?_, fresh := hS.fresh, loc := ?_, cel := ?_ }, hext⟩
  · exact keep b o (fun q => by rw [q, hS.fresh] at e; cases e) (hS.keep b o e)
  · obtain ⟨h1, h2, n, m', t, u, ⟨o, ho, hc, k, hd⟩, h3⟩ := hS.src a e
    exact ⟨h1, h2, n, m', t, u, ⟨o, keep a o (ns_not hn ho (by rw [hd]; intro _ _ e; cases e)) ho, hc, k, hd⟩, h3⟩
  · by_cases hb : a = env.locals
    · subst hb; obtain ⟨o, _, _, ho, _⟩ := hn'; exact ⟨o, ho⟩
    · obtain ⟨o, e⟩ := hS.live a q; exact ⟨o, keep a o hb e⟩
  · refine ⟨_, hn', fun y e hy he => ?_⟩
    simp only [upd] at he
    by_cases hyx : y = x
    · rw [if_pos hyx] at he; cases he
      exact ⟨v, by simp [hyx], r.ext hS hext⟩
    · rw [if_neg hyx] at he
      obtain ⟨u, h1, h2⟩ := hv y e hy he
      exact ⟨u, by simp [hyx, h1], h2.ext hS hext⟩
  · intro y e hy he
    have hyx : y ≠ x := fun q => by rw [q, hk] at hy; cases hy
    simp only [upd, if_neg hyx] at he
    obtain ⟨cl, v', h1, ⟨o, ho, hd⟩, h3⟩ := hS.cel y e hy he
    exact ⟨cl, v', h1, ⟨o, keep cl o (ns_not hn ho (by rw [hd]; intro _ _ e; cases e)) ho, hd⟩, h3.ext hS hext⟩

theorem envS_plain {env : Env} (hE : EnvS env nm) : (env.scope.kind == .class || (env.scope.kind == .module && env.locals != env.globals)) = false := by
  rw [hE.kind]; rfl

theorem store_ok {X : Addr → Prop} {A : Around} {env : Env} {s : Shared} {x : Str} {v : Value} {d : D} {Qm : Unit → Shared → Prop} {E : Value → Shared → Prop} (hE : EnvS env nm) (hS : St c X env σ s.heap)
    (hk : nm.lookup x = some .local) (r : Rep c.src X s.heap v d)
    (h : ∀ h' tk, St c X env (upd σ x d) h' → Ext c env.locals s.heap h' → Qm () { s with heap := h', toks := tk }) : wpAny (model c.prog c.w) A (storeName env x v) Qm E s := by
  obtain ⟨m, hn, hv⟩ := hS.loc
  have hk' : env.kindOf x = some .local := (hE.kindOf x).trans hk
  refine wpAny_storeName_local hk' hn (fun h' hn' hs => ?_) (envS_plain hE)
  obtain ⟨S', x'⟩ := hS.store hn hv hn' hs hk' r
  exact h h' _ S' x'

/-- assignment to a target -/
noncomputable def AsgOk (c : Cx) (nm : Names) (σ : Sig) (t : Expr) (d : D) (Q : Sig → Prop) : Prop :=
  ∀ (X : Addr → Prop) (A : Around) (env : Env) (s : Shared) (v : Value) (Qm : Unit → Shared → Prop) (E : Value → Shared → Prop), EnvS env nm → A.handled = none → St c X env σ s.heap → Rep c.src X s.heap v d →
    (∀ σ' h' tk, St c X env σ' h' → Ext c env.locals s.heap h' → (∀ x, nm.lookup x ≠ some .local → σ' x = σ x) → Q σ' → Qm () { s with heap := h', toks := tk }) →
    wpAny (model c.prog c.w) A (assign t env v) Qm E s

theorem AsgOk.mono {t d} {Q Q' : Sig → Prop} (h : AsgOk c nm σ t d Q) (hq : ∀ σ, Q σ → Q' σ) : AsgOk c nm σ t d Q' :=
  fun X A env s v Qm E hE hA hS r hQ => h X A env s v Qm E hE hA hS r fun σ' h' tk S x l q => hQ σ' h' tk S x l (hq _ q)

theorem AsgOk.name {x p d} {Q : Sig → Prop} (hk : nm.lookup x = some .local) (h : Q (upd σ x d)) : AsgOk c nm σ (.Name x p) d Q :=
  fun X A env s v Qm E hE _ hS r hQ => wpAny_assign_Name (store_ok hE hS hk r fun h' tk S' x' => hQ _ h' tk S' x' (fun y hy => by
    simp only [upd]; rw [if_neg]; rintro rfl; exact hy hk) h)

/-- several in order -/
noncomputable def AsgsOk (c : Cx) (nm : Names) : List Expr → List D → Sig → (Sig → Prop) → Prop
  | [], [], σ, Q => Q σ
  | t :: ts, d :: ds, σ, Q => (∀ x p, t ≠ .Starred x p) ∧ AsgOk c nm σ t d (fun σ' => AsgsOk c nm ts ds σ' Q)
  | _, _, _, _ => False

theorem assignEach_plain {env : Env} {e : Expr} {es : List Expr} (h : ∀ x p, e ≠ .Starred x p) : assignEach (e :: es) env = (false, assign e env) :: assignEach es env := by
  cases e <;> first | rfl | exact absurd rfl (h _ _)

theorem asgs_len : ∀ {ts : List Expr} {ds : List D} {σ : Sig} {Q : Sig → Prop}, AsgsOk c nm ts ds σ Q → ts.length = ds.length ∨ True := fun _ => .inr trivial

/-- the targets of a display, in order, over values -/
theorem asgs_run {X : Addr → Prop} {A : Around} {env : Env} {E : Value → Shared → Prop} (hE : EnvS env nm) (hA : A.handled = none) :
    ∀ (ts : List Expr) (ds : List D) (σ : Sig) (Q : Sig → Prop) (s : Shared) (vs : List Value) (Qm : Unit → Shared → Prop), (∀ t ∈ ts, ∀ x p, t ≠ .Starred x p) → AsgsOk c nm ts ds σ Q → St c X env σ s.heap → RepL c.src X s.heap vs ds →
      (∀ σ' h' tk, St c X env σ' h' → Ext c env.locals s.heap h' → (∀ x, nm.lookup x ≠ some .local → σ' x = σ x) → Q σ' → Qm () { s with heap := h', toks := tk }) →
      wpAny (model c.prog c.w) A (assignInOrder ((assignEach ts env).map (·.2)) vs) Qm E s
  | [], [], σ, Q, s, vs, Qm, _, h, hS, r, hQ => by
    rw [r.inv_nil]
    exact wpAny_pure (hQ σ s.heap s.toks hS .refl (fun _ _ => rfl) h)
  | t :: ts, d :: ds, σ, Q, s, vs, Qm, hp, h, hS, r, hQ => by
    obtain ⟨v, vs', rfl, r1, r2⟩ := r.inv_cons
    rw [assignEach_plain (hp t List.mem_cons_self)]
    show wpAny _ A (holding vs' (assign t env v) >>= fun _ => assignInOrder ((assignEach ts env).map (·.2)) vs') Qm E s
    refine wpAny_bind (wpAny_holding (h.2 X A env s v _ E hE hA hS r1 fun σ1 h1 tk1 S1 x1 l1 q1 => ?_))
    exact asgs_run hE hA ts ds σ1 Q _ vs' Qm (fun t ht => hp t (List.mem_cons_of_mem _ ht)) q1 S1 (r2.ext hS x1) fun σ2 h2 tk2 S2 x2 l2 q2 =>
      hQ σ2 h2 tk2 S2 (x1.trans x2) (fun x hx => (l2 x hx).trans (l1 x hx)) q2
  | [], _ :: _, _, _, _, _, _, _, h, _, _, _ => h.elim
  | _ :: _, [], _, _, _, _, _, _, h, _, _, _ => h.elim

theorem assignEach_length {env : Env} : ∀ {ts : List Expr}, (∀ t ∈ ts, ∀ x p, t ≠ .Starred x p) → (assignEach ts env).length = ts.length ∧ (assignEach ts env).findIdx? (·.1) = none
  | [], _ => ⟨rfl, rfl⟩
  | t :: ts, h => by
    have ih := assignEach_length (env := env) (ts := ts) fun t ht => h t (List.mem_cons_of_mem _ ht)
    rw [assignEach_plain (h t List.mem_cons_self)]
    exact ⟨by simp [ih.1], by simp [List.findIdx?_cons, ih.2]⟩

theorem asgs_starred : ∀ {ts : List Expr} {ds : List D} {σ : Sig} {Q : Sig → Prop}, (∀ t ∈ ts, ∀ x p, t ≠ .Starred x p) → True := fun _ => trivial

theorem AsgOk.tuple {es k p ds} {Q : Sig → Prop} (hp : ∀ t ∈ es, ∀ x p, t ≠ .Starred x p) (hl : es.length = ds.length) (h : AsgsOk c nm es ds σ Q) : AsgOk c nm σ (.Tuple es k p) (.tup ds) Q :=
  fun X A env s v Qm E hE hA hS r hQ => by
    cases r with
    | @tup a vs _ hx ht hn hi =>
      obtain ⟨l1, l2⟩ := assignEach_length (env := env) hp
      refine wpAny_assign_Tuple hA ht (by rw [l1, hl, List.size_toArray, hn]) l2 fun h' hx' => ?_
      have hk : ∀ b o, s.heap.get? b = some o → h'.get? b = some o := fun b o e => hx' b o (Nat.ne_of_lt (Heap.lt_size e)) e
      have S' := hS.grow hk
      exact asgs_run hE hA es ds σ Q { s with heap := h' } vs Qm hp h S' (RepL.extC hS.toBase (.of_keep hk) ⟨hn, hi⟩) fun σ' h2 tk S2 x2 l2 q2 => hQ σ' h2 tk S2 ((ExtC.of_keep hk).ext.trans x2) l2 q2

/-- «x = e» -/
noncomputable def noComp : Expr → Bool
  | .ListComp .. | .SetComp .. | .DictComp .. => false
  | _ => true
theorem swaps_plain {e : Expr} {t : Option Expr} {l : Nat} {env : Env} (h : noComp e = true) : swapsWith e t l env = pure false := by
  cases e <;> first | rfl | cases h

theorem ExecOk.assign {x p e pos} (hk : nm.lookup x = some .local) (hn : noComp e = true) (h : EvalOk c n nm σ e (fun d => Qn (upd σ x d))) : ExecOk c n nm σ (.Assign [.Name x p] e pos) Qn Qr :=
  fun X A env s Qm E hE hA hS hQ _ => by
    refine wpAny_Assign_Name (h X A env s _ E hE hA hS fun v d h1 tk1 S1 x1 r1 q1 => ?_) (swaps_plain hn)
    exact store_ok hE S1 hk r1 fun h2 tk2 S2 x2 => hQ _ h2 tk2 S2 (x1.trans x2) q1

end
end Mine
namespace Mine
set_option maxRecDepth 100000
noncomputable def okConst : Expr → Bool
  | .Tuple vs _ _ => vs.all (foldedForSure 8) || !vs.all (constantsAlone 8)
  | _ => true

noncomputable def nameIds : List Expr → List Str
  | [] => []
  | .Name x _ :: r => x :: nameIds r
  | _ :: r => nameIds r
noncomputable def allNames : List Expr → Bool
  | [] => true
  | .Name _ _ :: r => allNames r
  | _ :: _ => false

theorem filterMap_names (f : Expr → Option Str) (hf : ∀ e, f e = none ∨ ∃ x p, e = .Name x p ∧ f e = some x) : ∀ ts : List Expr, (ts.filterMap f).length ≤ ts.length ∧ ((ts.filterMap f).length = ts.length → allNames ts = true ∧ ts.filterMap f = nameIds ts)
  | [] => ⟨Nat.le_refl _, fun _ => ⟨rfl, rfl⟩⟩
  | t :: ts => by
    have ih := filterMap_names f hf ts
    rcases hf t with h | ⟨x, p, rfl, h⟩
    · rw [List.filterMap_cons_none h]
      refine ⟨Nat.le_trans ih.1 (Nat.le_succ _), fun e => ?_⟩
      rw [List.length_cons] at e
      have := ih.1; omega
    · rw [List.filterMap_cons_some h]
      refine ⟨by simpa using ih.1, fun e => ?_⟩
      have e' : (ts.filterMap f).length = ts.length := by simpa using e
      obtain ⟨h1, h2⟩ := ih.2 e'
      exact ⟨by simpa [allNames] using h1, by simp [nameIds, h2]⟩

theorem swapped_cases {ts : List Expr} {k : Nat} {p : Pos} {e : Expr} {env : Env} (hc : okConst e = true) :
    ∃ r, swappedStores [.Tuple ts k p] e env = pure r ∧ (r = none ∨ (allNames ts = true ∧ r = some (nameIds ts) ∧ (ts.length = 2 ∨ ts.length = 3) ∧ (nameIds ts).eraseDups.length = (nameIds ts).length)) := by
  cases e with
  | Tuple vs k' p' =>
    unfold swappedStores
    simp only [okConst, Bool.or_eq_true, Bool.not_eq_true'] at hc
    dsimp only
    have hf := filterMap_names (fun x => match x with | .Name id pos => if (env.kindOf id == some NameKind.local && pos.line == (Option.map (fun x => x.pos.line) ts.head?).getD 0) = true then some id else none | _ => none)
      (fun e => by
        cases e with
        | Name id pos =>
          dsimp only
          split
          · exact .inr ⟨_, _, rfl, rfl⟩
          · exact .inl rfl
        | _ => exact .inl rfl) ts
    generalize hN : ts.filterMap _ = N at hf ⊢
    split
    · exact ⟨none, rfl, .inl rfl⟩
    rename_i h1
    split
    · exact ⟨none, rfl, .inl rfl⟩
    split
    · exact ⟨none, rfl, .inl rfl⟩
    rename_i h2
    split
    · exact ⟨none, rfl, .inl rfl⟩
    rename_i h3
    split
    · rename_i h4
      rcases hc with hc | hc
      · exact absurd hc h3
      · rw [hc] at h4; cases h4
    · simp only [Bool.or_eq_true, bne_iff_ne, ne_eq, not_or, Decidable.not_not] at h2
      obtain ⟨h5, h6⟩ := hf.2 h2.1
      refine ⟨some N, rfl, .inr ⟨h5, by rw [h6], ?_, by rw [← h6]; exact h2.2⟩⟩
      simp only [Bool.or_eq_true, Bool.not_eq_true', bne_iff_ne, ne_eq, not_or, Decidable.not_not, Bool.or_eq_false_iff, beq_eq_false_iff_ne, not_and] at h1
      have := h1.1.1
      by_cases h2' : ts.length = 2
      · exact .inl h2'
      · exact .inr (this h2')
  | _ => exact ⟨none, rfl, .inl rfl⟩


section
variable {c : Cx} {n : Nat} {nm : Names} {σ : Sig} {Qn : Sig → Prop} {Qr : D → Prop}

noncomputable def upds : List Str → List D → Sig → Sig
  | x :: xs, d :: ds, σ => upds xs ds (upd σ x d)
  | _, _, σ => σ

theorem upd_comm {σ : Sig} {x y : Str} {d e : D} (h : x ≠ y) : upd (upd σ x d) y e = upd (upd σ y e) x d := by
  funext z
  simp only [upd]
  by_cases h1 : z = y
  · subst h1; rw [if_pos rfl, if_neg (Ne.symm h), if_pos rfl]
  · simp only [if_neg h1]

theorem upds_upd : ∀ {xs : List Str} {ds : List D} {σ : Sig} {x : Str} {d : D}, x ∉ xs → upds xs ds (upd σ x d) = upd (upds xs ds σ) x d
  | [], _, _, _, _, _ => by simp [upds]
  | y :: xs, [], _, _, _, _ => by simp [upds]
  | y :: xs, e :: ds, σ, x, d, h => by
    simp only [List.mem_cons, not_or] at h
    show upds xs ds (upd (upd σ x d) y e) = upd (upds xs ds (upd σ y e)) x d
    rw [upd_comm h.1, upds_upd h.2]

theorem upds_snoc : ∀ {xs : List Str} {ds : List D} {σ : Sig} {x : Str} {d : D}, xs.length = ds.length → upds (xs ++ [x]) (ds ++ [d]) σ = upd (upds xs ds σ) x d
  | [], [], _, _, _, _ => rfl
  | [], _ :: _, _, _, _, h => by simp at h
  | _ :: _, [], _, _, _, h => by simp at h
  | y :: xs, e :: ds, σ, x, d, h => by
    show upds (xs ++ [x]) (ds ++ [d]) (upd σ y e) = _
    rw [upds_snoc (by simpa using h)]; rfl

theorem upds_reverse : ∀ {xs : List Str} {ds : List D} {σ : Sig}, xs.length = ds.length → xs.Nodup → upds xs.reverse ds.reverse σ = upds xs ds σ
  | [], [], _, _, _ => rfl
  | [], _ :: _, _, h, _ => by simp at h
  | _ :: _, [], _, h, _ => by simp at h
  | x :: xs, d :: ds, σ, h, hn => by
    rw [List.reverse_cons, List.reverse_cons, upds_snoc (by simpa using h), upds_reverse (by simpa using h) (List.nodup_cons.mp hn).2]
    show _ = upds xs ds (upd σ x d)
    rw [upds_upd (List.nodup_cons.mp hn).1]

theorem names_run {X : Addr → Prop} {A : Around} {env : Env} {E : Value → Shared → Prop} (hE : EnvS env nm) :
    ∀ (xs : List Str) (ds : List D) (σ : Sig) (s : Shared) (vs : List Value) (Qm : Unit → Shared → Prop), xs.length = ds.length → (∀ x ∈ xs, nm.lookup x = some .local) → St c X env σ s.heap → RepL c.src X s.heap vs ds →
      (∀ h' tk, St c X env (upds xs ds σ) h' → Ext c env.locals s.heap h' → Qm () { s with heap := h', toks := tk }) →
      wpAny (model c.prog c.w) A (assignInOrder (xs.map fun n => bindName env n) vs) Qm E s
  | [], [], σ, s, vs, Qm, _, _, hS, r, hQ => by
    rw [r.inv_nil]
    exact wpAny_pure (hQ s.heap s.toks hS .refl)
  | [], _ :: _, _, _, _, _, h, _, _, _, _ => by simp at h
  | _ :: _, [], _, _, _, _, h, _, _, _, _ => by simp at h
  | x :: xs, d :: ds, σ, s, vs, Qm, hl, hk, hS, r, hQ => by
    obtain ⟨v, vs', rfl, r1, r2⟩ := r.inv_cons
    show wpAny _ A (holding vs' (bindName env x v) >>= fun _ => assignInOrder (xs.map fun n => bindName env n) vs') Qm E s
    refine wpAny_bind (wpAny_holding (wpAny_bindName (store_ok hE hS (hk x List.mem_cons_self) r1 fun h1 tk1 S1 x1 => ?_)))
    exact names_run hE xs ds _ _ vs' Qm (by simpa using hl) (fun y hy => hk y (List.mem_cons_of_mem _ hy)) S1 (r2.ext hS x1) fun h2 tk2 S2 x2 => hQ h2 tk2 S2 (x1.trans x2)

theorem names_asgs {Q : Sig → Prop} : ∀ {ts : List Expr} {ds : List D} {σ : Sig}, allNames ts = true → ts.length = ds.length → (∀ x ∈ nameIds ts, nm.lookup x = some .local) → Q (upds (nameIds ts) ds σ) → AsgsOk c nm ts ds σ Q
  | [], [], _, _, _, _, h => h
  | [], _ :: _, _, _, h, _, _ => by simp at h
  | _ :: _, [], _, _, h, _, _ => by simp at h
  | t :: ts, d :: ds, σ, ha, hl, hk, h => by
    cases t with
    | Name x p => exact ⟨fun _ _ e => (by cases e), AsgOk.name (hk x List.mem_cons_self) (names_asgs (by simpa [allNames] using ha) (by simpa using hl) (fun y hy => hk y (List.mem_cons_of_mem _ hy)) h)⟩
    | _ => cases ha
theorem names_plain : ∀ {ts : List Expr}, allNames ts = true → ∀ t ∈ ts, ∀ x p, t ≠ .Starred x p
  | [], _, _, h => by cases h
  | t :: ts, ha, t', h => by
    cases t with
    | Name x p =>
      rcases List.mem_cons.mp h with rfl | h
      · intro _ _ e; cases e
      · exact names_plain (by simpa [allNames] using ha) t' h
    | _ => cases ha
theorem names_len : ∀ {ts : List Expr}, allNames ts = true → (nameIds ts).length = ts.length
  | [], _ => rfl
  | t :: ts, ha => by
    cases t with
    | Name x p => simp [nameIds, names_len (ts := ts) (by simpa [allNames] using ha)]
    | _ => cases ha

theorem swapsSole_plain {e : Expr} {ts : Expr} {l : Nat} {env : Env} (h : noComp e = true) : swapsWithSole [ts] e l env = pure false := swaps_plain h

theorem exec_tuple {ts k tp e pos} {Q : Flow → Shared → Prop} {M : Model} {A : Around} {E : Value → Shared → Prop} {s : Shared} {env : Env} {r : Option (List Str)} (hn : noComp e = true) (hr : swappedStores [.Tuple ts k tp] e env = pure r)
    (h : wpAny M A (eval e env) (fun v s₁ => wpAny M A (assignStores env v r [assign (.Tuple ts k tp) env]) Q E s₁) E s) : wpAny M A (exec (.Assign [.Tuple ts k tp] e pos) env) Q E s := by
  rw [exec_Assign]
  refine wpAny_bind (wpAny_standAt ?_)
  rw [swapsSole_plain hn]
  refine wpAny_bind (wpAny_pure ?_)
  rw [if_neg (by decide)]
  refine wpAny_bind (wpAny_mono h (fun v s₁ h₁ => ?_) fun _ _ e => e)
  rw [hr]
  exact wpAny_bind (wpAny_pure h₁)

theorem ExecOk.assignN {ts k tp e pos} (hn : noComp e = true) (hc : okConst e = true) (ha : allNames ts = true) (hk : ∀ x ∈ nameIds ts, nm.lookup x = some .local) (hnd : (nameIds ts).Nodup)
    (h : EvalOk c n nm σ e (fun d => ∃ ds, d = .tup ds ∧ ts.length = ds.length ∧ Qn (upds (nameIds ts) ds σ))) : ExecOk c n nm σ (.Assign [.Tuple ts k tp] e pos) Qn Qr :=
  fun X A env s Qm E hE hA hS hQ _ => by
    obtain ⟨r, hr, hcase⟩ := swapped_cases (ts := ts) (k := k) (p := tp) (env := env) hc
    refine exec_tuple hn hr (h X A env s _ E hE hA hS fun v d h1 tk1 S1 x1 r1 q1 => ?_)
    obtain ⟨ds, rfl, hl, q⟩ := q1
    rcases hcase with rfl | ⟨_, rfl, _, _⟩
    · show wpAny _ A (PySem.assign (.Tuple ts k tp) env v >>= fun _ => pure Flow.next) _ _ _
      refine wpAny_bind (AsgOk.tuple (c := c) (nm := nm) (names_plain ha) hl (names_asgs (Q := Qn) ha hl hk q) X A env _ v _ E hE hA.hd S1 r1 fun σ' h2 tk2 S2 x2 _ q2 => ?_)
      exact wpAny_pure (hQ σ' h2 tk2 S2 (x1.trans x2) q2)
    · cases r1 with
      | @tup a vs _ hx ht hnn hi =>
        show wpAny _ A (rule "assign.swapped-stores" >>= fun _ => unpackItems (.ref a) (nameIds ts).length none >>= fun items => assignInOrder ((nameIds ts).reverse.map fun n => bindName env n) items.reverse >>= fun _ => pure Flow.next) _ _ _
        refine wpAny_bind (wpAny_rule ?_)
        have hlen : (nameIds ts).length = vs.toArray.size := by rw [names_len ha, hl, List.size_toArray, hnn]
        rw [hlen]
        refine wpAny_bind (wpAny_unpackItems_tuple hA.hd ht fun h' hx' => ?_)
        have hk' : ∀ b o, h1.get? b = some o → h'.get? b = some o := fun b o e => hx' b o (Nat.ne_of_lt (Heap.lt_size e)) e
        have S' := S1.grow hk'
        have rl : RepL c.src X h' vs ds := RepL.extC S1.toBase (.of_keep hk') ⟨hnn, hi⟩
        have rr : RepL c.src X h' vs.reverse ds.reverse := by
          refine ⟨by simp [hnn], fun i v d hv hd => ?_⟩
          have hi' : i < vs.length := by have := (List.getElem?_eq_some_iff.mp hv).1; simpa using this
          rw [List.getElem?_reverse hi'] at hv
          rw [List.getElem?_reverse (hnn ▸ hi')] at hd
          exact rl.2 _ v d hv (by rw [hnn]; exact hd)
        show wpAny _ A (assignInOrder ((nameIds ts).reverse.map fun n => bindName env n) vs.toArray.toList.reverse >>= fun _ => pure Flow.next) _ _ _
        refine wpAny_bind (names_run (c := c) (nm := nm) hE (nameIds ts).reverse ds.reverse σ { s with heap := h', toks := tk1 } vs.reverse _ (by simp [names_len ha, hl]) (fun x hx => hk x (List.mem_reverse.mp hx)) S' rr fun h2 tk2 S2 x2 => ?_)
        rw [upds_reverse (by rw [names_len ha, hl]) hnd] at S2
        exact wpAny_pure (hQ _ h2 tk2 S2 ((x1.trans (ExtC.of_keep hk').ext).trans x2) q)

theorem ExecOk.assignT {ts k tp e pos} (hn : noComp e = true) (hc : okConst e = true) (ha : allNames ts = false) (hp : ∀ t ∈ ts, ∀ x p, t ≠ .Starred x p)
    (h : EvalOk c n nm σ e (fun d => ∃ ds, d = .tup ds ∧ ts.length = ds.length ∧ AsgsOk c nm ts ds σ Qn)) : ExecOk c n nm σ (.Assign [.Tuple ts k tp] e pos) Qn Qr :=
  fun X A env s Qm E hE hA hS hQ _ => by
    obtain ⟨r, hr, hcase⟩ := swapped_cases (ts := ts) (k := k) (p := tp) (env := env) hc
    refine exec_tuple hn hr (h X A env s _ E hE hA hS fun v d h1 tk1 S1 x1 r1 q1 => ?_)
    obtain ⟨ds, rfl, hl, q⟩ := q1
    rcases hcase with rfl | ⟨h2, _⟩
    · show wpAny _ A (PySem.assign (.Tuple ts k tp) env v >>= fun _ => pure Flow.next) _ _ _
      refine wpAny_bind (AsgOk.tuple (c := c) (nm := nm) hp hl q X A env _ v _ E hE hA.hd S1 r1 fun σ' h2 tk2 S2 x2 _ q2 => ?_)
      exact wpAny_pure (hQ σ' h2 tk2 S2 (x1.trans x2) q2)
    · rw [ha] at h2; cases h2
end
end Mine
namespace Mine
set_option maxRecDepth 100000

section
variable {c : Cx} {X X' : Addr → Prop} {env : Env} {σ : Sig} {h h' : Heap}

theorem Base.setX (S : Base c X h) (hsrc : ∀ a, c.src = some a → X' a) (hk : ∀ b o, h.get? b = some o → h'.get? b = some o) (hl : ∀ a, X' a → ∃ o, h'.get? a = some o) : Base c X' h' where
  keep := fun b o e => hk _ _ (S.keep b o e)
  src := fun a e => by
    obtain ⟨h1, h2, n, m, t, u, ⟨o, ho, hr⟩, h3⟩ := S.src a e
    exact ⟨h1, hsrc a e, n, m, t, u, ⟨o, hk _ _ ho, hr⟩, h3⟩
  live := hl
theorem St.setX (S : St c X env σ h) (hX : ∀ a, X' a → X a ∨ h.get? a = Option.none) (hsrc : ∀ a, c.src = some a → X' a) (hk : ∀ b o, h.get? b = some o → h'.get? b = some o)
    (hl : ∀ a, X' a → ∃ o, h'.get? a = some o) : St c X' env σ h' where
  toBase := S.toBase.setX hsrc hk hl
  fresh := S.fresh
  loc := by
    obtain ⟨m, hn, hv⟩ := S.loc
    refine ⟨m, hn.keeps hk, fun x d hx hd => ?_⟩
    obtain ⟨v, h1, h2⟩ := hv x d hx hd
    exact ⟨v, h1, h2.step hX fun a o _ e _ => hk a o e⟩
  cel := fun x d hx hd => by
    obtain ⟨cl, v, h1, h2, h3⟩ := S.cel x d hx hd
    exact ⟨cl, v, h1, h2.keeps hk, h3.step hX fun a o _ e _ => hk a o e⟩

/-- one object that no value shows has turned -/
theorem St.wr' {I : Addr} {oI : Obj} (S : St c X env σ h) (hI : h.get? I = some oI) (hd1 : ∀ v, oI.data ≠ .cell v) (hd2 : c.src ≠ some I) (hL : I ≠ env.locals) (h0 : c.h₀.get? I = Option.none)
    (hR : X I ∨ ∃ es ep, oI.data = .dict es ep) (hk : ∀ b o, b ≠ I → h.get? b = some o → h'.get? b = some o) (hsub : ∀ a, X' a → X a) (hsrc : ∀ a, c.src = some a → X' a) (hl : ∀ a, X' a → a ≠ I ∨ ∃ o, h'.get? a = some o) : St c X' env σ h' := by
  have step : ∀ {v d}, Rep c.src X h v d → Rep c.src X' h' v d := fun r => r.step (fun a q => .inl (hsub a q)) fun a o hX e hd => hk a o (fun q => by
    subst q; rw [hI] at e; cases e
    rcases hR with hR | ⟨es, ep, hR⟩
    · exact hX hR
    · exact hd es ep hR) e
  refine { keep := fun b o e => ?_, src := fun a e => ?_, live := fun a q => ?_, fresh := S.fresh, loc := ?_, cel := ?_ }
  · exact hk b o (fun q => by rw [q, h0] at e; cases e) (S.keep b o e)
  · obtain ⟨h1, h2, n, m', t, u, ⟨o, ho, hc, k, hd⟩, h3⟩ := S.src a e
    refine ⟨h1, hsrc a e, n, m', t, u, ⟨o, hk a o (fun q => ?_) ho, hc, k, hd⟩, h3⟩
    subst q; exact hd2 e
  · rcases hl a q with hb | hb
    · obtain ⟨o, e⟩ := S.live a (hsub a q); exact ⟨o, hk a o hb e⟩
    · exact hb
  · obtain ⟨m, ⟨o, es, ep, ho, hr⟩, hv⟩ := S.loc
    refine ⟨m, ⟨o, es, ep, hk _ _ (Ne.symm hL) ho, hr⟩, fun x d hx hd => ?_⟩
    obtain ⟨v, h1, h2⟩ := hv x d hx hd
    exact ⟨v, h1, step h2⟩
  · intro x d hx hd
    obtain ⟨cl, v, h1, ⟨o, ho, hd'⟩, h3⟩ := S.cel x d hx hd
    refine ⟨cl, v, h1, ⟨o, hk cl o (fun q => ?_) ho, hd'⟩, step h3⟩
    subst q; rw [hI] at ho; cases ho; exact hd1 _ hd'
theorem St.wr {I : Addr} {oI : Obj} (S : St c X env σ h) (hI : h.get? I = some oI) (hd1 : ∀ v, oI.data ≠ .cell v) (hd2 : c.src ≠ some I) (hL : I ≠ env.locals) (h0 : c.h₀.get? I = Option.none)
    (hR : X I ∨ ∃ es ep, oI.data = .dict es ep) (hk : ∀ b o, b ≠ I → h.get? b = some o → h'.get? b = some o) (hI' : ∃ o, h'.get? I = some o) : St c X env σ h' :=
  S.wr' hI hd1 hd2 hL h0 hR hk (fun _ q => q) (fun a q => (S.src a q).2.1) fun a _ => (Decidable.em (a = I)).elim (fun q => .inr (q ▸ hI')) .inl
end

/-! iteration -/
noncomputable def itemsD : D → Option (List D)
  | .tup ds => some ds
  | .lst ds => some ds
  | .rng k => if k ≤ 1000 then some ((List.range k).map fun (i : Nat) => D.int i) else Option.none
  | _ => Option.none

structure IterAt (c : Cx) (A : Around) (X : Addr → Prop) (h₁ : Heap) (ds : List D) (I : Addr) (fp : List Addr) (P : Nat → Value → Prop) (SI : Nat → Heap → Prop) (h : Heap) : Prop where
  walks : Walks c.prog c.w A I fp [I] ds.length P SI
  start : SI 0 h
  grow : ∀ b o, h₁.get? b = some o → h.get? b = some o
  fresh : h₁.get? I = Option.none
  foot : ∀ b ∈ fp, b = I ∨ ∃ o, h₁.get? b = some o ∧ ¬ X b ∧ ∀ es ep, o.data ≠ .dict es ep
  inFoot : I ∈ fp
  iter : ∀ i hh, SI i hh → ∃ o vs T, hh.get? I = some o ∧ o.cls = .type T ∧ o.data = .fields vs ∧ (["enumerate", "zip", "dict_itemiterator", "dict_reverseitemiterator", "odict_iterator", "itertools.zip_longest", "itertools.pairwise"].contains T) = false
  items : ∀ i v, P i v → ∀ e, ds[i]? = some e → Rep c.src X h₁ v e

theorem fresh_size {h : Heap} : h.get? h.objs.size = Option.none := by
  cases e : h.get? h.objs.size with
  | none => rfl
  | some o => exact absurd (Heap.lt_size e) (Nat.lt_irrefl _)

theorem range_facts {k : Nat} (h : k ≤ 1000) : Builtin.Range.small 0 (k : Int) 1 = true ∧ Builtin.Range.rangeSize 0 (k : Int) 1 = (k : Int) := by
  constructor
  · exact small_one (by omega) (by omega) (by omega) (by omega)
  · first | exact rangeSize_nat _ _ | (unfold Builtin.Range.rangeSize; simp; omega)

theorem iter_open {c : Cx} {A : Around} {X : Addr → Prop} {s : Shared} {v : Value} {d : D} {ds : List D} {Qm : Value → Shared → Prop} {E : Value → Shared → Prop} (hA : A.handled = none)
    (r : Rep c.src X s.heap v d) (hd : itemsD d = some ds)
    (h : ∀ I fp P SI h', IterAt c A X s.heap ds I fp P SI h' → Qm (.ref I) { s with heap := h' }) : wpAny (model c.prog c.w) A (pyIter v) Qm E s := by
  cases r with
  | @tup a vs _ hx ht hn hi =>
    cases hd
    refine wpAny_pyIter_tuple ht ?_
    have ha : a < s.heap.objs.size := by obtain ⟨o, ho, _⟩ := ht; exact Heap.lt_size ho
    have W := Walks.tuple (prog := c.prog) (w := c.w) hA s.heap.objs.size a (Nat.ne_of_lt ha) vs.toArray
    rw [show vs.toArray.size = ds.length by rw [List.size_toArray, hn]] at W
    refine h _ _ _ _ _ { walks := W, start := ⟨⟨_, Heap.get?_push_size _ rfl, rfl, rfl⟩, ht.push _⟩, grow := push_keep _, fresh := fresh_size, foot := ?_, inFoot := by simp, iter := ?_, items := ?_ }
    · intro b hb
      simp only [List.mem_cons, List.not_mem_nil, or_false] at hb
      rcases hb with rfl | rfl
      · exact .inl rfl
      · obtain ⟨o, ho, _, k, hd⟩ := ht
        exact .inr ⟨o, ho, hx, by rw [hd]; intro _ _ e; cases e⟩
    · rintro i hh ⟨⟨o, ho, hc, hd⟩, _⟩
      exact ⟨o, _, _, ho, hc, hd, by decide⟩
    · intro i v hv e he
      exact hi i v e (by simpa using hv) he
  | @lst a vs _ hx ht hn hi =>
    cases hd
    refine wpAny_pyIter_list ht ?_
    have ha : a < s.heap.objs.size := by obtain ⟨o, ho, _⟩ := ht; exact Heap.lt_size ho
    have W := Walks.list (prog := c.prog) (w := c.w) hA s.heap.objs.size a (Nat.ne_of_lt ha) vs.toArray
    rw [show vs.toArray.size = ds.length by rw [List.size_toArray, hn]] at W
    refine h _ _ _ _ _ { walks := W, start := ⟨⟨_, Heap.get?_push_size _ rfl, rfl, rfl⟩, ht.push _⟩, grow := push_keep _, fresh := fresh_size, foot := ?_, inFoot := by simp, iter := ?_, items := ?_ }
    · intro b hb
      simp only [List.mem_cons, List.not_mem_nil, or_false] at hb
      rcases hb with rfl | rfl
      · exact .inl rfl
      · obtain ⟨o, ho, _, k, hd⟩ := ht
        exact .inr ⟨o, ho, hx, by rw [hd]; intro _ _ e; cases e⟩
    · rintro i hh ⟨⟨o, ho, hc, hd⟩, _⟩
      exact ⟨o, _, _, ho, hc, hd, by decide⟩
    · intro i v hv e he
      exact hi i v e (by simpa using hv) he
  | @rng a k t u v hx hr =>
    simp only [itemsD] at hd
    split at hd
    · rename_i hk
      cases hd
      obtain ⟨f1, f2⟩ := range_facts hk
      refine wpAny_pyIter_range hr f1 ?_
      have W := Walks.range (prog := c.prog) (w := c.w) hA s.heap.objs.size 0 1 k
      have hlen : ((List.range k).map fun (i : Nat) => D.int i).length = k := by simp
      refine h _ [s.heap.objs.size] (fun i v => ∃ t, v = .int (0 + i * 1) t) (fun i h => IsRangeIter h s.heap.objs.size (0 + (i : Nat) * 1) ((k : Int) - (i : Nat)) 1) _
        { walks := by rw [hlen]; exact W, start := ?_, grow := push_keep _, fresh := fresh_size, foot := ?_, inFoot := by simp, iter := ?_, items := ?_ }
      · show IsRangeIter _ _ _ _ _
        rw [f2]
        simpa using Heap.get?_push_size _ rfl
      · intro b hb; exact .inl (by simpa using hb)
      · intro i hh hs
        exact ⟨_, _, _, hs, rfl, rfl, by decide⟩
      · rintro i v ⟨t, rfl⟩ e he
        simp only [List.getElem?_map, List.getElem?_range, Option.map_eq_some_iff] at he
        obtain ⟨j, hj, rfl⟩ := he
        have : j = i := by
          have := (List.getElem?_eq_some_iff.mp hj).2
          simpa using this.symm
        subst this
        have e2 : (0 + (j : Int) * 1) = (j : Int) := by omega
        rw [e2]; exact .int _ _
    · cases hd
  | _ => cases hd
end Mine
namespace Mine
set_option maxRecDepth 100000

section
variable {c : Cx} {n : Nat} {nm : Names}

/-- what holds between two turns -/
structure Turn (c : Cx) (A : Around) (X : Addr → Prop) (L : Addr) (h₁ : Heap) (ds : List D) (I : Addr) (fp : List Addr) (P : Nat → Value → Prop) (SI : Nat → Heap → Prop) (i : Nat) (h : Heap) : Prop where
  si : SI i h
  ext : Ext c L h₁ h

theorem IterAt.ne_src {A X h₁ ds I fp P SI h} (T : IterAt c A X h₁ ds I fp P SI h) (B : Base c X h₁) : c.src ≠ some I := fun q => by
  obtain ⟨_, _, n, m, t, u, ⟨o, ho, _⟩, _⟩ := B.src I q
  rw [T.fresh] at ho; cases ho

theorem IterAt.ne_L {A X h₁ ds I fp P SI h L m} (T : IterAt c A X h₁ ds I fp P SI h) (hn : h₁.Ns L m) : I ≠ L := fun q => by
  obtain ⟨o, es, ep, ho, _⟩ := hn
  rw [← q, T.fresh] at ho; cases ho

/-- the walk's own state stays under what leaves it be -/
theorem IterAt.keepSI {A X h₁ ds I fp P SI h L m i h2 h3} (T : IterAt c A X h₁ ds I fp P SI h) (B : Base c X h₁) (hn : h₁.Ns L m) (hs : SI i h2) (x : Ext c L h2 h3) : SI i h3 := by
  refine T.walks.frame i h2 h3 hs fun b hb o e => ?_
  rcases T.foot b hb with rfl | ⟨o', ho', hX, hd⟩
  · exact x b o e (T.ne_src B) (T.ne_L hn)
  · exact x b o e (fun q => hX (B.src b q).2.1) (ns_not hn ho' hd)

noncomputable def ForOk (c : Cx) (n : Nat) (nm : Names) (x : Str) (body : List Stmt) : List D → Sig → (Sig → Prop) → (D → Prop) → Prop
  | [], σ, Qn, _ => Qn σ
  | d :: ds, σ, Qn, Qr => ExecsOk c n nm (upd σ x d) body (fun σ' => ForOk c n nm x body ds σ' Qn Qr) Qr

noncomputable def noSet : Expr → Bool
  | .Set .. => false
  | _ => true
theorem folded_plain {e : Expr} {env : Env} (h : noSet e = true) : ∀ x, foldedSetIterable e env x = pure x := by
  intro x
  cases e <;> first | rfl | cases h

noncomputable def lockX (X : Addr → Prop) (I : Addr) : Addr → Prop := fun a => X a ∨ a = I

theorem ExecOk.forIn {σ : Sig} {Qn : Sig → Prop} {Qr : D → Prop} {x p it body pos} (hk : nm.lookup x = some .local) (hns : noSet it = true)
    (h : EvalOk c n nm σ it (fun d => ∃ ds, itemsD d = some ds ∧ ForOk c n nm x body ds σ Qn Qr)) : ExecOk c n nm σ (.For (.Name x p) it body [] pos) Qn Qr :=
  fun X A env s Qm E hE hA hS hQ hR => by
    refine wpAny_For (h X A env s _ E hE hA hS fun v d h1 tk1 S1 x1 r1 q1 => ?_) (folded_plain hns)
    obtain ⟨ds, hd, hfor⟩ := q1
    refine iter_open hA.hd r1 hd fun I fp P SI h2 T => ?_
    obtain ⟨m1, hn1, _⟩ := id S1.loc
    have hIs := T.ne_src S1.toBase
    have hIL := T.ne_L hn1
    have hI0 : c.h₀.get? I = Option.none := by
      cases e : c.h₀.get? I with
      | none => rfl
      | some o => have := S1.keep I o e; rw [T.fresh] at this; cases this
    have S2 : St c (lockX X I) env σ h2 := S1.setX (fun a q => q.elim .inl fun q => .inr (by rw [q]; exact T.fresh)) (fun a q => .inl (S1.src a q).2.1) T.grow (fun a q => by
      rcases q with q | rfl
      · obtain ⟨o, e⟩ := S1.live a q; exact ⟨o, T.grow a o e⟩
      · obtain ⟨o, _, _, ho, _⟩ := T.iter 0 h2 T.start; exact ⟨o, ho⟩)
    refine codeAny_forLoop
      (fun k s' => ∃ i σi hh tk, s' = { s with heap := hh, toks := tk } ∧ k = ds.length - i ∧ i ≤ ds.length ∧ SI i hh ∧ St c (lockX X I) env σi hh ∧ Ext c env.locals h1 hh ∧ ForOk c n nm x body (ds.drop i) σi Qn Qr)
      ?_ ds.length ⟨0, σ, h2, tk1, rfl, rfl, Nat.zero_le _, T.start, S2, (ExtC.of_keep T.grow).ext, by simpa using hfor⟩
    rintro k s' ⟨i, σi, hh, tk, rfl, rfl, hi, hsi, Si, xi, hf⟩
    obtain ⟨oI, vs, TI, hoI, hcI, hdI, hTI⟩ := T.iter i hh hsi
    have nocell : ∀ v, oI.data ≠ .cell v := by intro v e; rw [hdI] at e; cases e
    rcases Nat.lt_or_ge i ds.length with hlt | hge
    · refine T.walks.item i _ _ _ hlt hsi fun v h3 tk3 hP hs3 hk3 => ?_
      have hk3' : ∀ b o, b ≠ I → hh.get? b = some o → h3.get? b = some o := fun b o hb e => hk3 b o (by simpa using hb) e
      have hI3 : ∃ o, h3.get? I = some o := by obtain ⟨o, _, _, ho, _⟩ := T.iter (i + 1) h3 hs3; exact ⟨o, ho⟩
      have S3 : St c (lockX X I) env σi h3 := Si.wr hoI nocell hIs hIL hI0 (.inl (.inr rfl)) hk3' hI3
      have x3 : Ext c env.locals h1 h3 := fun b o e e1 e2 => hk3' b o (fun q => by rw [q, T.fresh] at e; cases e) (xi b o e e1 e2)
      have hdi : ds[i]? = some ds[i] := List.getElem?_eq_getElem hlt
      have hdrop : ds.drop i = ds[i] :: ds.drop (i + 1) := List.drop_eq_getElem_cons hlt
      have rv : Rep c.src (lockX X I) h3 v ds[i] := by
        refine (T.items i v hP _ hdi).step (fun a q => q.elim .inl fun q => .inr (by rw [q]; exact T.fresh)) fun a o hX e hd => ?_
        exact x3 a o e (fun q => hX (S1.src a q).2.1) (ns_not hn1 e hd)
      rw [hdrop] at hf
      refine wpAny_assign_Name (store_ok hE S3 hk rv fun h4 tk4 S4 x4 => ?_)
      refine hf (lockX X I) A env _ _ _ hE hA S4 (fun σ5 h5 tk5 S5 x5 q5 => ?_) fun σ5 v5 d5 h5 tk5 S5 x5 r5 q5 => ?_
      · have x35 : Ext c env.locals h3 h5 := x4.trans x5
        refine ⟨ds.length - (i + 1), by omega, i + 1, σ5, h5, tk5, rfl, rfl, hlt, ?_, S5, x3.trans x35, q5⟩
        exact T.keepSI S1.toBase hn1 hs3 x35
      · have S6 : St c X env σ5 h5 := S5.setX (fun a q => .inl (.inl q)) (fun a q => (S1.src a q).2.1) (fun _ _ e => e) (fun a q => S5.live a (.inl q))
        exact hR σ5 v5 d5 h5 tk5 S6 (x1.trans (x3.trans (x4.trans x5))) (r5.step (fun a q => .inl (.inl q)) fun _ _ _ e _ => e) q5
    · have hii : i = ds.length := Nat.le_antisymm hi hge
      subst hii
      refine T.walks.done _ _ _ hsi fun h3 tk3 hk3 => ?_
      have hk3' : ∀ b o, b ≠ I → hh.get? b = some o → h3.get? b = some o := fun b o hb e => hk3 b o (by simpa using hb) e
      rw [List.drop_length] at hf
      have x3 : Ext c env.locals h1 h3 := fun b o e e1 e2 => hk3' b o (fun q => by rw [q, T.fresh] at e; cases e) (xi b o e e1 e2)
      have S6 : St c X env σi h3 := Si.wr' hoI nocell hIs hIL hI0 (.inl (.inr rfl)) hk3' (fun _ q => .inl q) (fun a q => (S1.src a q).2.1) fun a q => .inl fun e => by
        obtain ⟨o, ho⟩ := S1.live a q
        rw [e, T.fresh] at ho; cases ho
      exact wpAny_execs_nil (hQ σi h3 tk3 S6 (x1.trans x3) hf)
end
end Mine
namespace Mine
set_option maxRecDepth 100000

/-! comprehensions -/
section
variable {prog : Program} {w : World} {A : Around} {R : Result → Shared → Prop} {s : Shared}

/-- one turn of a list comprehension, whatever its target -/
theorem comp_loop {elt target iter : Expr} {ifs : List Expr} {scope : Scope} {pos : Pos} {it acc : Value} {env : Env} (I : Nat → Shared → Prop)
    (turn : ∀ n s, I n s → wpAny (model prog w) A (pyNext it) (fun r s₁ => match r with
      | none => R (.ok .next) s₁
      | some v => wpAny (model prog w) A (letOwnedTupleGo target it v) (fun _ s₁' => wpAny (model prog w) A (assign target env v) (fun _ s₂ =>
          wpAny (model prog w) A (forIn ifs true fun c r => if r = true then do let ok ← isTrue c env (eval c env); pure (ForInStep.yield ok) else pure (ForInStep.yield r)) (fun ok s₃ =>
            if ok = true then wpAny (model prog w) A (eval elt env) (fun x s₄ =>
              wpAny (model prog w) A (call (.builtin "list.append") [acc, x]) (fun _ s₅ => ∃ m, m < n ∧ I m s₅) (notedBy (model prog w) A env fun e s' => R (.error e) s') s₄) (notedBy (model prog w) A env fun e s' => R (.error e) s') s₃
            else ∃ m, m < n ∧ I m s₃) (notedBy (model prog w) A env fun e s' => R (.error e) s') s₂) (notedBy (model prog w) A env fun e s' => R (.error e) s') s₁') (notedBy (model prog w) A env fun e s' => R (.error e) s') s₁) (notedBy (model prog w) A env fun e s' => R (.error e) s') s)
    (n : Nat) (h : I n s) : codeAny (model prog w) A (.compLoop (.ListComp elt [⟨target, iter, ifs, 0⟩] scope pos) 0 it acc env) R s := by
  refine codeAny_loop rfl I (fun n s hI => ?_) n h
  show wpAny _ A ((compTurn (.ListComp elt [⟨target, iter, ifs, 0⟩] scope pos) 0 it acc env).onRaise (fun x => do noteFrame x env; theTreesLotGoes x)) _ _ s
  refine wpAny_noted ?_
  rw [compTurn_list]
  refine wpAny_bind (wpAny_standAt (wpAny_bind (wpAny_mono (turn n s hI) (fun r s₁ h₁ => ?_) fun _ _ h' => h')))
  cases r with
  | none => exact wpAny_pure h₁
  | some v =>
    refine wpAny_bind (wpAny_mono h₁ (fun _ s₁' h₁' => ?_) fun _ _ h' => h')
    refine wpAny_bind (wpAny_mono h₁' (fun _ s₂ h₂ => wpAny_bind (wpAny_mono h₂ (fun ok s₃ h₃ => ?_) fun _ _ h' => h')) fun _ _ h' => h')
    cases ok with
    | false => exact wpAny_pure ⟨rfl, h₃⟩
    | true => exact wpAny_bind (wpAny_bind (wpAny_mono h₃ (fun x s₄ h₄ => wpAny_bind (wpAny_mono h₄ (fun _ s₅ h₅ => wpAny_pure (wpAny_pure ⟨rfl, h₅⟩)) fun _ _ h' => h')) fun _ _ h' => h'))

theorem let_go {target : Expr} {I : Addr} {v : Value} {o : Obj} {T : String} {vs : Array Value} {Q : Unit → Shared → Prop} {E : Value → Shared → Prop} (ho : s.heap.get? I = some o) (hc : o.cls = .type T) (hd : o.data = .fields vs)
    (hT : (["enumerate", "zip", "dict_itemiterator", "dict_reverseitemiterator", "odict_iterator", "itertools.zip_longest", "itertools.pairwise"].contains T) = false) (h : Q () s) :
    wpAny (model prog w) A (letOwnedTupleGo target (.ref I) v) Q E s := by
  unfold letOwnedTupleGo
  split
  · cases v with
    | ref a =>
      dsimp only
      refine wpAny_bind (wpAny_load ho ?_)
      rw [hc, hd]
      dsimp only
      rw [hT]
      exact wpAny_pure h
    | _ => exact wpAny_pure h
  · cases v with
    | ref a =>
      dsimp only
      refine wpAny_bind (wpAny_load ho ?_)
      rw [hc, hd]
      dsimp only
      rw [hT]
      exact wpAny_pure h
    | _ => exact wpAny_pure h
  · exact wpAny_pure h
end

section
variable {c : Cx} {n : Nat} {nm : Names}

noncomputable def CompOk (c : Cx) (n : Nat) (nm : Names) (t : Expr) (ifs : List Expr) (elt : Expr) (σ₀ : Sig) : List D → List D → (List D → Prop) → Prop
  | [], acc, Q => Q acc
  | d :: ds, acc, Q => AsgOk c nm σ₀ t d (fun σ' => match ifs with
    | [] => EvalOk c n nm σ' elt (fun y => CompOk c n nm t ifs elt σ₀ ds (acc ++ [y]) Q)
    | [f] => TestOk c n nm σ' f (fun b => if b then EvalOk c n nm σ' elt (fun y => CompOk c n nm t ifs elt σ₀ ds (acc ++ [y]) Q) else CompOk c n nm t ifs elt σ₀ ds acc Q)
    | _ => False)

noncomputable def relN (nm : Names) (l : Names) : Names := l.map fun x => if (x.2 == .free && nm.lookup x.1 == some .cell) then (x.1, .cell) else x

theorem relabel_names {env : Env} (hE : EnvS env nm) (scope : Scope) : (relabel scope env).names = relN nm scope.names := by
  unfold relabel relN
  simp only [hE.kind, hE.kindOf, beq_self_eq_true, Bool.and_true]

theorem envS_comp {env : Env} (hE : EnvS env nm) {scope : Scope} (hk : scope.kind = .function) (cl : List (Str × Addr)) (C : Addr) : EnvS (compEnvC scope cl C env) (relN nm scope.names) where
  kind := hk
  names := relabel_names hE scope
  globals := hE.globals
  builtins := hE.builtins

theorem relN_cell {x : Str} : ∀ {l : Names}, (∀ y ∈ l, y.2 ≠ .cell) → (relN nm l).lookup x = some .cell → (x, NameKind.free) ∈ l ∧ nm.lookup x = some .cell
  | [], _, h => by cases h
  | (y, k) :: l, hc, h => by
    have ih := @relN_cell x l (fun y hy => hc y (List.mem_cons_of_mem _ hy))
    simp only [relN, List.map_cons] at h
    by_cases hb : (k == .free && nm.lookup y == some .cell) = true
    · rw [if_pos hb, List.lookup_cons] at h
      by_cases hxy : x == y
      · have e : x = y := by simpa using hxy
        simp only [Bool.and_eq_true, beq_iff_eq] at hb
        rw [e, ← hb.1]
        exact ⟨List.mem_cons_self, hb.2⟩
      · simp only [hxy] at h
        obtain ⟨h1, h2⟩ := ih h
        exact ⟨List.mem_cons_of_mem _ h1, h2⟩
    · rw [if_neg hb, List.lookup_cons] at h
      by_cases hxy : x == y
      · simp only [hxy] at h
        cases h
        exact absurd rfl (hc (y, .cell) List.mem_cons_self)
      · simp only [hxy] at h
        obtain ⟨h1, h2⟩ := ih h
        exact ⟨List.mem_cons_of_mem _ h1, h2⟩

theorem closure_ok {env : Env} (scope : Scope) (h : ∀ y ∈ scope.names, y.2 = .free → ∃ a, env.cells.lookup y.1 = some a) :
    ∃ cl, closureFor scope env = pure cl ∧ ∀ x, (x, NameKind.free) ∈ scope.names → cl.lookup x = env.cells.lookup x := by
  have key : ∀ (l : Names), (∀ y ∈ l, y.2 = .free → ∃ a, env.cells.lookup y.1 = some a) → ∀ (cs : List (Str × Addr)), (∀ x, cs.lookup x = Option.none ∨ cs.lookup x = env.cells.lookup x) →
      ∃ cl, (forIn l cs (fun (x : Str × NameKind) (r : List (Str × Addr)) => if x.2 == NameKind.free then (do let a ← cellOf env x.1; pure (ForInStep.yield ((x.1, a) :: r))) else pure (ForInStep.yield r)) : Sem (List (Str × Addr))) = pure cl ∧
        (∀ x, cl.lookup x = Option.none ∨ cl.lookup x = env.cells.lookup x) ∧ (∀ x, (cs.lookup x).isSome = true ∨ (x, NameKind.free) ∈ l → cl.lookup x = env.cells.lookup x) := by
    intro l
    induction l with
    | nil =>
      intro _ cs hcs
      exact ⟨cs, rfl, hcs, fun x hx => by
        rcases hx with hx | hx
        · rcases hcs x with e | e
          · rw [e] at hx; cases hx
          · exact e
        · cases hx⟩
    | cons y l ih =>
      intro hl cs hcs
      rw [List.forIn_cons]
      by_cases hy : (y.2 == NameKind.free) = true
      · obtain ⟨a, ha⟩ := hl y List.mem_cons_self (by simpa using hy)
        have hc : cellOf env y.1 = pure a := by unfold cellOf; rw [ha]
        rw [if_pos hy, hc]
        obtain ⟨cl, e1, e2, e3⟩ := ih (fun z hz => hl z (List.mem_cons_of_mem _ hz)) ((y.1, a) :: cs) (fun x => by
          rw [List.lookup_cons]
          by_cases hxy : x == y.1
          · have e : x = y.1 := by simpa using hxy
            simp only [hxy]; exact .inr (by rw [e, ha])
          · simp only [hxy]; exact hcs x)
        refine ⟨cl, e1, e2, fun x hx => e3 x ?_⟩
        rcases hx with hx | hx
        · refine .inl ?_
          rw [List.lookup_cons]
          by_cases hxy : x == y.1 <;> simp [hxy, hx]
        · rcases List.mem_cons.mp hx with rfl | hx
          · exact .inl (by simp)
          · exact .inr hx
      · rw [if_neg hy]
        obtain ⟨cl, e1, e2, e3⟩ := ih (fun z hz => hl z (List.mem_cons_of_mem _ hz)) cs hcs
        refine ⟨cl, e1, e2, fun x hx => e3 x ?_⟩
        rcases hx with hx | hx
        · exact .inl hx
        · rcases List.mem_cons.mp hx with rfl | hx
          · simp at hy
          · exact .inr hx
  obtain ⟨cl, e1, _, e3⟩ := key scope.names h [] (fun _ => .inl rfl)
  refine ⟨cl, ?_, fun x hx => e3 x (.inr hx)⟩
  unfold closureFor
  exact congrArg (fun (t : Sem (List (Str × Addr))) => t >>= fun r => pure r) e1
end
end Mine
namespace Mine
set_option maxRecDepth 100000

section
variable {c : Cx} {n : Nat} {nm : Names} {σ : Sig}

noncomputable def cellSig (nm' : Names) (σ : Sig) : Sig := fun x => if nm'.lookup x = some .cell then σ x else Option.none

theorem comp_kindOf {env : Env} (hE : EnvS env nm) (scope : Scope) (cl : List (Str × Addr)) (C : Addr) (x : Str) : (compEnvC scope cl C env).kindOf x = (relN nm scope.names).lookup x := by
  show (relabel scope env).names.lookup x = _
  rw [relabel_names hE]

/-- the frame of a comprehension, laid anew over what the cells show -/
theorem compSt {X Xc : Addr → Prop} {env : Env} {scope : Scope} {cl : List (Str × Addr)} {C : Addr} {h h' : Heap} {m : Str → Option Value} (hE : EnvS env nm) (S : St c X env σ h)
    (hcell : ∀ y ∈ scope.names, y.2 ≠ .cell) (hcl : ∀ x, (x, NameKind.free) ∈ scope.names → cl.lookup x = env.cells.lookup x)
    (B : Base c Xc h') (hX : ∀ a, Xc a → X a ∨ h.get? a = Option.none) (x : ExtC c h h') (hC0 : c.h₀.get? C = Option.none) (hn : h'.Ns C m) :
    St c Xc (compEnvC scope cl C env) (cellSig (relN nm scope.names) σ) h' where
  toBase := B
  fresh := hC0
  loc := ⟨m, hn, fun y d hy hd => by
    rw [comp_kindOf hE] at hy
    simp only [cellSig, hy] at hd
    cases hd⟩
  cel := fun y d hy hd => by
    rw [comp_kindOf hE] at hy
    simp only [cellSig, hy, if_true] at hd
    obtain ⟨h1, h2⟩ := relN_cell hcell hy
    obtain ⟨cl', v, e1, ⟨o, ho, hd'⟩, e3⟩ := S.cel y d ((hE.kindOf y).trans h2) hd
    refine ⟨cl', v, (hcl y h1).trans e1, ⟨o, x _ _ ho (src_not S.toBase ho (by rw [hd']; intro _ _ e; cases e)), hd'⟩, ?_⟩
    exact e3.step hX fun a o hXa e _ => x a o e fun q => hXa (S.src a q).2.1

theorem ext_fresh {h h2 h3 : Heap} {C : Addr} (x : ExtC c h h2) (y : Ext c C h2 h3) (hC : h.get? C = Option.none) : ExtC c h h3 := fun b o e hs => y b o (x b o e hs) hs (fun q => by rw [q, hC] at e; cases e)

theorem comp_core {elt t it : Expr} {ifs : List Expr} {scope : Scope} {pos : Pos} {Q : List D → Prop}
    (hk : scope.kind = .function) (hcell : ∀ y ∈ scope.names, y.2 ≠ .cell) {cl : List (Str × Addr)} {env : Env} (hcl : ∀ x, (x, NameKind.free) ∈ scope.names → cl.lookup x = env.cells.lookup x)
    (h : EvalOk c n nm σ it (fun d => ∃ ds, itemsD d = some ds ∧ ds.length ≤ 100000 ∧ CompOk c n (relN nm scope.names) t ifs elt (cellSig (relN nm scope.names) σ) ds [] Q))
    {X : Addr → Prop} {A : Around} {s : Shared} {E : Value → Shared → Prop} (RR : Value → Addr → Result → Shared → Prop) (hE : EnvS env nm) (hA : Room A n) (hS : St c X env σ s.heap)
    (hfin : ∀ D C h' tk ys m', St c X env σ h' → Ext c env.locals s.heap h' → Rep c.src X h' (.ref D) (.lst ys) → Q ys → h'.Ns C m' → C ≠ env.locals → c.h₀.get? C = Option.none → ¬ X C → c.src ≠ some C → s.heap.get? C = Option.none → RR (.ref D) C (.ok .next) { s with heap := h', toks := tk }) :
    wpAny (model c.prog c.w) A (eval it env) (fun x s₁ => wpAny (model c.prog c.w) A (pyIter x) (fun itv s₂ => wpAny (model c.prog c.w) A (newList []) (fun acc s₃ =>
      wpAny (model c.prog c.w) A (newFunctionEnv scope env.globals cl [] env.qual none .none (some env)) (fun cenv s₄ =>
        codeAny (model c.prog c.w) A (.compStart (.ListComp elt [⟨t, it, ifs, 0⟩] scope pos) 0 itv acc { cenv with scope := relabel scope env }) (RR acc cenv.locals) s₄) E s₃) E s₂) E s₁) E s := by
  refine h X A env s _ E hE hA hS fun v d h1 tk1 S1 x1 r1 q1 => ?_
  obtain ⟨ds, hd, hlen, hcomp⟩ := q1
  refine iter_open hA.hd r1 hd fun I fp P SI h2 T => ?_
  refine wpAny_newObj_type (wpAny_newFunctionEnv (fun y hy => hcell y hy) (by intro y hy; simp at hy) (fun h4 hns hsb => ?_) hk)
  dsimp only at hns hsb ⊢
  obtain ⟨m1, hn1, _⟩ := id S1.loc
  have hIs := T.ne_src S1.toBase
  have hIL := T.ne_L hn1
  generalize hH3 : h2.push { cls := .type "list", dict := none, data := .seq ([] : List Value).toArray } = h3 at hns hsb ⊢
  -- the three new places
  have sz3 : h3.objs.size = h2.objs.size + 1 := by rw [← hH3, Heap.size_push]
  have g12 : ∀ b o, h1.get? b = some o → h2.get? b = some o := T.grow
  have g23 : ∀ b o, h2.get? b = some o → h3.get? b = some o := fun b o e => hH3 ▸ push_keep _ b o e
  have hDC : h2.objs.size ≠ h3.objs.size := by rw [sz3]; exact Nat.ne_of_lt (Nat.lt_succ_self _)
  have g34 : ∀ b o, h3.get? b = some o → h4.get? b = some o := fun b o e => hsb.extBut b o (Nat.ne_of_lt (Heap.lt_size e)) (push_keep _ b o e)
  have g14 : ∀ b o, h1.get? b = some o → h4.get? b = some o := fun b o e => g34 _ _ (g23 _ _ (g12 _ _ e))
  have fresh1 : ∀ a, h2.objs.size ≤ a → h1.get? a = Option.none := fun a ha => by
    cases e : h1.get? a with
    | none => rfl
    | some o => exact absurd (Heap.lt_size (g12 _ _ e)) (Nat.not_lt.mpr ha)
  have fresh0 : ∀ a, h1.get? a = Option.none → c.h₀.get? a = Option.none := fun a ha => by
    cases e : c.h₀.get? a with
    | none => rfl
    | some o => have := S1.keep a o e; rw [ha] at this; cases this
  have noX : ∀ a, h1.get? a = Option.none → ¬ X a := fun a ha q => by obtain ⟨o, e⟩ := S1.live a q; rw [ha] at e; cases e
  have noS : ∀ a, h1.get? a = Option.none → c.src ≠ some a := fun a ha q => by
    obtain ⟨_, _, n, m, t, u, ⟨o, ho, _⟩, _⟩ := S1.src a q
    rw [ha] at ho; cases ho
  have noL : ∀ a, h1.get? a = Option.none → a ≠ env.locals := fun a ha q => by
    obtain ⟨o, es, ep, ho, _⟩ := hn1
    rw [← q, ha] at ho; cases ho
  have fD := fresh1 h2.objs.size (Nat.le_refl _)
  have fC := fresh1 h3.objs.size (by rw [sz3]; exact Nat.le_succ _)
  have hID : I ≠ h2.objs.size := by
    obtain ⟨o, _, _, ho, _⟩ := T.iter 0 h2 T.start
    exact Nat.ne_of_lt (Heap.lt_size ho)
  have hIC : I ≠ h3.objs.size := by
    obtain ⟨o, _, _, ho, _⟩ := T.iter 0 h2 T.start
    exact Nat.ne_of_lt (Heap.lt_size (g23 _ _ ho))
  have hacc : h4.IsList h2.objs.size #[] := ⟨_, g34 _ _ (hH3 ▸ Heap.get?_push_size _ rfl), rfl, _, rfl⟩
  generalize hDq : h2.objs.size = D at *
  generalize hCq : h3.objs.size = C at *
  let Xc := lockX (lockX X I) D
  have hXc : ∀ a, Xc a → X a ∨ h1.get? a = Option.none := fun a q => by
    rcases q with (q | q) | q
    · exact .inl q
    · exact .inr (by rw [q]; exact T.fresh)
    · exact .inr (by rw [q]; exact fD)
  have B4 : Base c Xc h4 := S1.toBase.setX (fun a q => .inl (.inl (S1.src a q).2.1)) g14 (fun a q => by
    rcases q with (q | q) | q
    · obtain ⟨o, e⟩ := S1.live a q; exact ⟨o, g14 _ _ e⟩
    · obtain ⟨o, _, _, ho, _⟩ := T.iter 0 h2 T.start; exact ⟨o, by rw [q]; exact g34 _ _ (g23 _ _ ho)⟩
    · obtain ⟨o, ho, _⟩ := hacc; exact ⟨o, by rw [q]; exact ho⟩)
  have x14 : ExtC c h1 h4 := .of_keep g14
  have C0 := fresh0 C fC
  have D0 := fresh0 D fD
  have I0 := fresh0 I T.fresh
  have hE' : EnvS (compEnvC scope cl C env) (relN nm scope.names) := envS_comp hE hk cl C
  have lay : ∀ {hh m}, Base c Xc hh → ExtC c h1 hh → hh.Ns C m → St c Xc (compEnvC scope cl C env) (cellSig (relN nm scope.names) σ) hh := fun B x hn => compSt hE S1 hcell hcl B hXc x C0 hn
  have S4 := lay B4 x14 hns
  have hs4 : SI 0 h4 := T.walks.frame 0 h2 h4 T.start fun b _ o e => g34 _ _ (g23 _ _ e)
  have keepSI : ∀ {i ha hb}, SI i ha → ExtC c h1 ha → (∀ b o, ha.get? b = some o → c.src ≠ some b → b ≠ C → b ≠ D → hb.get? b = some o) → SI i hb := fun {i ha hb} hs xa hk => by
    refine T.walks.frame i ha hb hs fun b hb' o e => ?_
    rcases T.foot b hb' with rfl | ⟨o', ho', hX, hd⟩
    · exact hk b o e hIs hIC hID
    · exact hk b o e (fun q => hX (S1.src b q).2.1) (fun q => by rw [q, fC] at ho'; cases ho') (fun q => by rw [q, fD] at ho'; cases ho')
  have loop : ∀ s₃ : Shared, s₃ = { s with heap := h4, toks := tk1 + ([] : List (Str × Value)).length } →
      codeAny (model c.prog c.w) A (.compLoop (.ListComp elt [⟨t, it, ifs, 0⟩] scope pos) 0 (.ref I) (.ref D) (compEnvC scope cl C env)) (RR (.ref D) C) s₃ := by
    rintro s₃ rfl
    refine comp_loop
      (fun k s' => ∃ i vs ys hh tk, s' = { s with heap := hh, toks := tk } ∧ k = ds.length - i ∧ i ≤ ds.length ∧ ys.length ≤ i ∧ SI i hh ∧ Base c Xc hh ∧ ExtC c h1 hh ∧ (∃ m, hh.Ns C m) ∧ hh.IsList D (List.toArray vs) ∧ RepL c.src Xc hh vs ys ∧
        CompOk c n (relN nm scope.names) t ifs elt (cellSig (relN nm scope.names) σ) (ds.drop i) ys Q)
      ?_ ds.length ⟨0, [], [], h4, _, rfl, rfl, Nat.zero_le _, Nat.le_refl _, hs4, B4, x14, ⟨_, hns⟩, hacc, .nil, by simpa using hcomp⟩
    rintro k s' ⟨i, vs, ys, hh, tk, rfl, rfl, hi, hyi, hsi, Bi, xi, ⟨mi, hni⟩, hli, ryi, hf⟩
    obtain ⟨oI, vI, TI, hoI, hcI, hdI, hTI⟩ := T.iter i hh hsi
    have nocell : ∀ v, oI.data ≠ .cell v := by intro v e; rw [hdI] at e; cases e
    have Si := lay Bi xi hni
    rcases Nat.lt_or_ge i ds.length with hlt | hge
    · refine T.walks.item i _ _ _ hlt hsi fun v h5 tk5 hP hs5 hk5 => ?_
      have hk5' : ∀ b o, b ≠ I → hh.get? b = some o → h5.get? b = some o := fun b o hb e => hk5 b o (by simpa using hb) e
      have hI5 := T.iter (i + 1) h5 hs5
      have hI5' : ∃ o, h5.get? I = some o := by obtain ⟨o, _, _, ho, _⟩ := hI5; exact ⟨o, ho⟩
      have S5 : St c Xc (compEnvC scope cl C env) (cellSig (relN nm scope.names) σ) h5 := Si.wr hoI nocell hIs hIC I0 (.inl (.inl (.inr rfl))) hk5' hI5'
      have x5 : ExtC c h1 h5 := fun b o e hs => hk5' b o (fun q => by rw [q, T.fresh] at e; cases e) (xi b o e hs)
      have l5 : h5.IsList D vs.toArray := by obtain ⟨o, ho, hr⟩ := hli; exact ⟨o, hk5' _ _ (Ne.symm hID) ho, hr⟩
      have ry5 : RepL c.src Xc h5 vs ys := ryi.step (fun a q => .inl q) fun a o hX e _ => hk5' a o (fun q => hX (by rw [q]; exact .inl (.inr rfl))) e
      have hdi : ds[i]? = some ds[i] := List.getElem?_eq_getElem hlt
      rw [List.drop_eq_getElem_cons hlt] at hf
      have rv : Rep c.src Xc h5 v ds[i] := (T.items i v hP _ hdi).step hXc fun a o hX e _ => x5 a o e fun q => hX (S1.src a q).2.1
      obtain ⟨o5, v5, T5, ho5, hc5, hd5, hT5⟩ := hI5
      refine let_go (s := { s with heap := h5, toks := tk5 }) ho5 hc5 hd5 hT5 ?_
      refine hf Xc A _ _ v _ _ hE' hA.hd S5 rv fun σ6 h6 tk6 S6 x6 l6 q6 => ?_
      -- behind the element: append and round
      have after : ∀ (h7 : Heap) (tk7 : Nat) (y : Value) (e : Mine.D), St c Xc (compEnvC scope cl C env) σ6 h7 → Ext c C h5 h7 → Rep c.src Xc h7 y e → CompOk c n (relN nm scope.names) t ifs elt (cellSig (relN nm scope.names) σ) (ds.drop (i + 1)) (ys ++ [e]) Q →
          ∀ E', wpAny (model c.prog c.w) A (call (.builtin "list.append") [.ref D, y]) (fun _ s₅ => ∃ m, m < ds.length - i ∧ ∃ i vs ys hh tk, s₅ = { s with heap := hh, toks := tk } ∧ m = ds.length - i ∧ i ≤ ds.length ∧ ys.length ≤ i ∧ SI i hh ∧ Base c Xc hh ∧ ExtC c h1 hh ∧ (∃ m, hh.Ns C m) ∧ hh.IsList D (List.toArray vs) ∧ RepL c.src Xc hh vs ys ∧
            CompOk c n (relN nm scope.names) t ifs elt (cellSig (relN nm scope.names) σ) (ds.drop i) ys Q) E' { s with heap := h7, toks := tk7 } := fun h7 tk7 y e S7 x7 r7 q7 E' => by
        have l7 : h7.IsList D vs.toArray := by obtain ⟨o, ho, hr⟩ := l5; exact ⟨o, x7 _ _ ho (noS D fD) hDC, hr⟩
        refine wpAny_list_append l7 (fun h8 l8 s8 => ?_) (by rw [List.size_toArray, ryi.1]; have : sizeLine = 2 ^ 24 := rfl; omega)
        have k78 : ∀ b o, b ≠ D → h7.get? b = some o → h8.get? b = some o := fun b o hb e => s8.extBut b o hb e
        obtain ⟨oD, hoD, hcD, kD, hdD⟩ := l7
        have S8 : St c Xc (compEnvC scope cl C env) σ6 h8 := S7.wr hoD (by intro v e; rw [hdD] at e; cases e) (noS D fD) hDC D0 (.inl (.inr rfl)) k78 (by obtain ⟨o, ho, _⟩ := l8; exact ⟨o, ho⟩)
        have x17 : ExtC c h1 h7 := ext_fresh x5 x7 fC
        have x18 : ExtC c h1 h8 := fun b o e hs => k78 b o (fun q => by rw [q, fD] at e; cases e) (x17 b o e hs)
        have ry7 : RepL c.src Xc h7 vs ys := ry5.ext S5 x7
        have rall : RepL c.src Xc h8 (vs ++ [y]) (ys ++ [e]) := (ry7.append (.cons r7 .nil)).step (fun a q => .inl q) fun a o hX e _ => k78 a o (fun q => hX (by rw [q]; exact .inr rfl)) e
        obtain ⟨m8, hn8, _⟩ := S8.loc
        refine ⟨ds.length - (i + 1), by omega, i + 1, vs ++ [y], ys ++ [e], h8, tk7, rfl, rfl, hlt, by simp; omega, ?_, S8.toBase, x18, ⟨m8, hn8⟩, by simpa using l8, rall, q7⟩
        exact keepSI hs5 x5 fun b o e h1 h2 h3 => k78 b o h3 (x7 b o e h1 h2)
      cases ifs with
      | nil =>
        refine wpAny_tests_nil ?_
        rw [if_pos rfl]
        exact q6 Xc A _ _ _ _ hE' hA S6 fun y e h7 tk7 S7 x7 r7 q7 => after h7 tk7 y e S7 (x6.trans x7) r7 q7 _
      | cons f fs =>
        cases fs with
        | nil =>
          refine wpAny_tests_one (q6 Xc A _ _ _ _ hE' hA S6 fun b h7 tk7 S7 x7 q7 => ?_)
          cases b with
          | true =>
            rw [if_pos rfl]
            simp only [if_true] at q7
            exact q7 Xc A _ _ _ _ hE' hA S7 fun y e h8 tk8 S8 x8 r8 q8 => after h8 tk8 y e S8 ((x6.trans x7).trans x8) r8 q8 _
          | false =>
            rw [if_neg (by decide)]
            have q7' : CompOk c n (relN nm scope.names) t [f] elt (cellSig (relN nm scope.names) σ) (ds.drop (i + 1)) ys Q := by simpa using q7
            obtain ⟨m7, hn7, _⟩ := id S7.loc
            have x57 : Ext c C h5 h7 := x6.trans x7
            refine ⟨ds.length - (i + 1), by omega, i + 1, vs, ys, h7, tk7, rfl, rfl, hlt, by omega, ?_, S7.toBase, ext_fresh x5 x57 fC, ⟨m7, hn7⟩, ?_, ry5.ext S5 x57, q7'⟩
            · exact keepSI hs5 x5 fun b o e h1 h2 _ => x57 b o e h1 h2
            · obtain ⟨o, ho, hr⟩ := l5; exact ⟨o, x57 _ _ ho (noS D fD) hDC, hr⟩
        | cons _ _ => exact q6.elim
    · have hii : i = ds.length := Nat.le_antisymm hi hge
      subst hii
      refine T.walks.done _ _ _ hsi fun h5 tk5 hk5 => ?_
      have hk5' : ∀ b o, b ≠ I → hh.get? b = some o → h5.get? b = some o := fun b o hb e => hk5 b o (by simpa using hb) e
      rw [List.drop_length] at hf
      have S5 : St c X (compEnvC scope cl C env) (cellSig (relN nm scope.names) σ) h5 := Si.wr' hoI nocell hIs hIC I0 (.inl (.inl (.inr rfl))) hk5' (fun _ q => .inl (.inl q)) (fun a q => (S1.src a q).2.1) fun a q => .inl fun e => noX I T.fresh (e ▸ q)
      have x5 : ExtC c h1 h5 := fun b o e hs => hk5' b o (fun q => by rw [q, T.fresh] at e; cases e) (xi b o e hs)
      have l5 : h5.IsList D vs.toArray := by obtain ⟨o, ho, hr⟩ := hli; exact ⟨o, hk5' _ _ (Ne.symm hID) ho, hr⟩
      have ry5 : RepL c.src X h5 vs ys := ryi.step (fun a q => .inl (.inl (.inl q))) fun a o hX e _ => hk5' a o (fun q => hX (by rw [q]; exact .inl (.inr rfl))) e
      obtain ⟨m5, hn5, _⟩ := S5.loc
      exact hfin D C h5 tk5 ys m5 (S1.callC S5.toBase x5) (x1.trans x5.ext) (.lst (noX D fD) l5 ry5.1 ry5.2) hf hn5 (noL C fC) C0 (noX C fC) (noS C fC) (by
        cases e : s.heap.get? C with
        | none => rfl
        | some o => have := x1 C o e (noS C fC) (noL C fC); rw [fC] at this; cases this)
  refine codeAny_compStart_list (loop _ rfl) ?_
  refine T.walks.self 0 _ _ _ hs4 ?_
  exact loop _ rfl

theorem comp_after {X : Addr → Prop} {env : Env} {h h' h'' : Heap} {C : Addr} {m : Str → Option Value} {v : Value} {d : D} (S : St c X env σ h') (x : Ext c env.locals h h') (r : Rep c.src X h' v d) (hn : h'.Ns C m) (hL : C ≠ env.locals) (h0 : c.h₀.get? C = Option.none)
    (hX : ¬ X C) (hs : c.src ≠ some C) (hf : h.get? C = Option.none) (sb : Heap.SameBut C h' h'') : St c X env σ h'' ∧ Ext c env.locals h h'' ∧ Rep c.src X h'' v d := by
  obtain ⟨o, es, ep, ho, hd, hr⟩ := id hn
  have k : ∀ b o, b ≠ C → h'.get? b = some o → h''.get? b = some o := fun b o hb e => sb.extBut b o hb e
  refine ⟨S.wr' ho (by intro v e; rw [hd] at e; cases e) hs hL h0 (.inr ⟨es, ep, hd⟩) k (fun _ q => q) (fun a q => (S.src a q).2.1) (fun a q => .inl fun e => hX (e ▸ q)), ?_, ?_⟩
  · exact fun b o e h1 h2 => k b o (fun q => by rw [q, hf] at e; cases e) (x b o e h1 h2)
  · exact r.step (fun a q => .inl q) fun a o _ e hd => k a o (ns_not hn e hd) e

theorem EvalOk.comp {elt t it : Expr} {ifs : List Expr} {scope : Scope} {pos : Pos} {Q : D → Prop} (hk : scope.kind = .function) (hcell : ∀ y ∈ scope.names, y.2 ≠ .cell)
    (hnames : ∀ y ∈ scope.names, y.2 = .local → scope.names.lookup y.1 = some .local) (hns : noSet it = true) (hfree : ∀ y ∈ scope.names, y.2 = .free → nm.lookup y.1 = some .cell ∧ ∃ d, σ y.1 = some d)
    (h : EvalOk c n nm σ it (fun d => ∃ ds, itemsD d = some ds ∧ ds.length ≤ 100000 ∧ CompOk c n (relN nm scope.names) t ifs elt (cellSig (relN nm scope.names) σ) ds [] (fun ys => Q (.lst ys)))) :
    EvalOk c n nm σ (.ListComp elt [⟨t, it, ifs, 0⟩] scope pos) Q :=
  fun X A env s Qm E hE hA hS hQ => by
    obtain ⟨cl, e1, e2⟩ := closure_ok (env := env) scope fun y hy hf => by
      obtain ⟨h1, d, h2⟩ := hfree y hy hf
      obtain ⟨a, v, h3, _⟩ := hS.cel y.1 d ((hE.kindOf _).trans h1) h2
      exact ⟨a, h3⟩
    rw [eval_ListComp]
    refine wpAny_comprehension_free (use := Option.none) rfl (folded_plain hns) e1 hk hnames ?_
    refine comp_core hk hcell e2 h (fun acc C => compPost (model c.prog c.w) A E Option.none Qm acc C) hE hA hS fun D C h' tk ys m' S' x' r' q' hn hL h0 hX hs hf => ?_
    refine ⟨m', hn, fun h'' sb => ?_⟩
    obtain ⟨S2, x2, r2⟩ := comp_after S' x' r' hn hL h0 hX hs hf sb
    exact hQ _ _ h'' tk S2 x2 r2 q'

theorem swaps_comp {elt : Expr} {gens : List Comprehension} {scope : Scope} {pos p : Pos} {y : Str} {l : Nat} {env : Env} : ∃ b, swapsWith (.ListComp elt gens scope pos) (some (.Name y p)) l env = pure b := ⟨_, rfl⟩

theorem ExecOk.assignC {elt t it : Expr} {ifs : List Expr} {scope : Scope} {pos p spos : Pos} {y : Str} {Qn : Sig → Prop} {Qr : D → Prop} (hy : nm.lookup y = some .local) (hk : scope.kind = .function) (hcell : ∀ y ∈ scope.names, y.2 ≠ .cell)
    (hnames : ∀ y ∈ scope.names, y.2 = .local → scope.names.lookup y.1 = some .local) (hns : noSet it = true) (hfree : ∀ y ∈ scope.names, y.2 = .free → nm.lookup y.1 = some .cell ∧ ∃ d, σ y.1 = some d)
    (h : EvalOk c n nm σ it (fun d => ∃ ds, itemsD d = some ds ∧ ds.length ≤ 100000 ∧ CompOk c n (relN nm scope.names) t ifs elt (cellSig (relN nm scope.names) σ) ds [] (fun ys => Qn (upd σ y (.lst ys))))) :
    ExecOk c n nm σ (.Assign [.Name y p] (.ListComp elt [⟨t, it, ifs, 0⟩] scope pos) spos) Qn Qr :=
  fun X A env s Qm E hE hA hS hQ hR => by
    obtain ⟨b, hb⟩ := swaps_comp (elt := elt) (gens := [⟨t, it, ifs, 0⟩]) (scope := scope) (pos := pos) (p := p) (y := y) (l := spos.line) (env := env)
    cases b with
    | false =>
      refine wpAny_Assign_Name (EvalOk.comp (Q := fun d => Qn (upd σ y d)) hk hcell hnames hns hfree h X A env s _ E hE hA hS fun v d h1 tk1 S1 x1 r1 q1 => ?_) hb
      exact store_ok hE S1 hy r1 fun h2 tk2 S2 x2 => hQ _ h2 tk2 S2 (x1.trans x2) q1
    | true =>
      obtain ⟨cl, e1, e2⟩ := closure_ok (env := env) scope fun y hy hf => by
        obtain ⟨h1, d, h2⟩ := hfree y hy hf
        obtain ⟨a, v, h3, _⟩ := hS.cel y.1 d ((hE.kindOf _).trans h1) h2
        exact ⟨a, h3⟩
      rw [exec_Assign_Name_used _ _ _ _ hb]
      refine wpAny_bind (wpAny_standAt (wpAny_bind ?_))
      show wpAny _ A (do let _ ← comprehension (.ListComp elt [⟨t, it, ifs, 0⟩] scope pos) scope env _ (newList []) false (eval it env) (some (PySem.assign (.Name y p) env))) _ _ s
      refine wpAny_bind (wpAny_mono (wpAny_comprehension_free (use := some (PySem.assign (.Name y p) env)) (Q := fun _ s' => Qm .next s') rfl (folded_plain hns) e1 hk hnames ?_) (fun _ s' hq => wpAny_pure (wpAny_pure hq)) fun _ _ e => e)
      refine comp_core hk hcell e2 h (fun acc C => compPost (model c.prog c.w) A E (some (PySem.assign (.Name y p) env)) (fun _ s' => Qm .next s') acc C) hE hA hS fun D C h' tk ys m' S' x' r' q' hn hL h0 hX hs hf => ?_
      show wpAny _ A (PySem.assign (.Name y p) env (.ref D)) _ _ _
      refine wpAny_assign_Name (store_ok hE S' hy r' fun h2 tk2 S2 x2 => ?_)
      have hn2 : h2.Ns C m' := by obtain ⟨o, es, ep, ho, hd, hr⟩ := hn; exact ⟨o, es, ep, x2 _ _ ho hs hL, hd, hr⟩
      refine ⟨m', hn2, fun h3 sb => ?_⟩
      obtain ⟨S3, x3, _⟩ := comp_after S2 (x'.trans x2) (Rep.none) hn2 hL h0 hX hs hf sb
      exact hQ _ h3 tk2 S3 x3 q'
end
end Mine
namespace Mine
set_option maxRecDepth 100000

section
variable {c : Cx} {n : Nat}

theorem bind_rel {src X h} : ∀ {xs : List Str} {vs : List Value} {ds : List D} {σ : Sig}, RepL src X h vs ds → xs.length = ds.length → ∀ x d, upds xs ds σ x = some d →
    (∃ v, (xs.zip vs).reverse.lookup x = some v ∧ Rep src X h v d) ∨ ((xs.zip vs).reverse.lookup x = Option.none ∧ σ x = some d)
  | [], vs, [], σ, r, _, x, d, hd => by rw [r.inv_nil]; exact .inr ⟨rfl, hd⟩
  | [], _, _ :: _, _, _, hl, _, _, _ => by simp at hl
  | _ :: _, _, [], _, _, hl, _, _, _ => by simp at hl
  | y :: xs, vs, e :: ds, σ, r, hl, x, d, hd => by
    obtain ⟨v, vs', rfl, r1, r2⟩ := r.inv_cons
    rw [List.zip_cons_cons, List.reverse_cons, List.lookup_append]
    rcases bind_rel r2 (by simpa using hl) x d hd with ⟨u, h1, h2⟩ | ⟨h1, h2⟩
    · exact .inl ⟨u, by rw [h1]; rfl, h2⟩
    · rw [h1]
      simp only [upd] at h2
      by_cases hxy : x = y
      · rw [if_pos hxy] at h2; cases h2
        exact .inl ⟨v, by simp [hxy], r1⟩
      · rw [if_neg hxy] at h2
        refine .inr ⟨?_, h2⟩
        simp [hxy]

noncomputable def noSig : Sig := fun _ => Option.none

theorem room_deeper {A : Around} {env : Env} (h : Room A (n + 1)) : Room (A.deeper env) n :=
  ⟨h.hd, by have := h.depth; show A.depth + 1 + n < _; omega, by have := h.units; show A.units + 3 + 8 * n < _; omega⟩

theorem fn_known {d : DefRec} (hd : d ∈ recsOf c.p) : ∃ a o fd, c.mg d.name = some (.ref a) ∧ c.h₀.get? a = some o ∧ o.data = .func fd := by
  obtain ⟨a, o, pm, code, doc, h1, h2, h3, _⟩ := c.top.fn d hd
  exact ⟨a, o, _, h1, h2, h3⟩

/-- a call of a plain def -/
theorem callOk_def {f : Str} {d : DefRec} {xs : List Str} {ds : List D} {Q : D → Prop} (hd : d ∈ recsOf c.p) (hf : d.name = f) (hlen : xs.length = ds.length)
    (hbind : ∀ pm code doc vs, vs.length = ds.length → bindArgs (Calls.docDef d.name d.params d.body d.scope pm code doc) ⟨vs, []⟩ = pure (xs.zip vs))
    (hcell : ∀ x ∈ d.scope.names, x.2 ≠ .cell) (hloc : ∀ x ∈ xs, d.scope.names.lookup x = some .local) (hk : d.scope.kind = .function) (hco : d.scope.isCoroutine = false) (hgen : d.scope.isGenerator = false)
    (h : ExecsOk c n d.scope.names (upds xs ds noSig) d.body (fun _ => Q .none) Q) : CallOk c (n + 1) f ds Q := by
  subst hf
  refine ⟨fn_known hd, fun a' ha' X A s vs Qm E hA hB hr hQ => ?_⟩
  obtain ⟨a, o, pm, code, doc, h1, h2, h3, h4⟩ := c.top.fn d hd
  rw [h1] at ha'; cases ha'
  have hzip : ∀ y ∈ xs.zip vs, d.scope.names.lookup y.1 = some .local := fun y hy => hloc _ (List.of_mem_zip hy).1
  refine wpAny_call (codeAny_call_def (fd := Calls.docDef d.name d.params d.body d.scope pm code doc) (body := d.body) (binds := xs.zip vs) (by have := hA.depth; omega) (hB.keep _ _ h2) h3 (c.top.nolimit.keeps hB.keep)
    (h4.keeps hB.keep) rfl (BindsTo.of_eq (hbind pm code doc vs hr.1)) hcell hzip (fun h1' hns hk1 => ?_) hco hgen hk)
  have hL0 : c.h₀.get? s.heap.objs.size = Option.none := by
    cases e : c.h₀.get? s.heap.objs.size with
    | none => rfl
    | some o => exact absurd (Heap.lt_size (hB.keep _ _ e)) (Nat.lt_irrefl _)
  have S : St c X (callEnv (Calls.docDef d.name d.params d.body d.scope pm code doc) s.heap.objs.size a') (upds xs ds noSig) h1' :=
    { toBase := hB.grow hk1
      fresh := hL0
      loc := ⟨_, hns, fun x e hx he => by
        rcases bind_rel hr hlen x e he with ⟨v, q1, q2⟩ | ⟨_, q2⟩
        · exact ⟨v, q1, q2.extC hB (.of_keep hk1)⟩
        · cases q2⟩
      cel := fun x e hx he => by
        have : (x, NameKind.cell) ∈ d.scope.names := by
          have hx' : d.scope.names.lookup x = some .cell := hx
          rw [List.lookup_eq_some_iff] at hx'
          obtain ⟨l1, l2, e, _⟩ := hx'
          rw [e]; simp
        exact absurd rfl (hcell _ this) }
  have back : ∀ {h'}, Ext c s.heap.objs.size h1' h' → ExtC c s.heap h' := fun x b o e hs => x b o (hk1 b o e) hs (Nat.ne_of_lt (Heap.lt_size e))
  exact h X _ _ _ _ _ ⟨hk, rfl, rfl, rfl⟩ (room_deeper hA) S (fun σ' h' tk S' x' q' => hQ _ _ h' tk S'.toBase (back x') .none q') fun σ' v e h' tk S' x' r' q' => hQ v e h' tk S'.toBase (back x') r' q'

/-- a call of a def whose one parameter is kept in a cell -/
theorem callOk_cell {f : Str} {d : DefRec} {x₀ : Str} {e₀ : D} {Q : D → Prop} (hd : d ∈ recsOf c.p) (hf : d.name = f)
    (hbind : ∀ pm code doc v, bindArgs (Calls.docDef d.name d.params d.body d.scope pm code doc) ⟨[v], []⟩ = pure [(x₀, v)])
    (hx : d.scope.names.lookup x₀ = some .cell) (hone : ∀ m, ((cellsFrom m d.scope.names []).lookup x₀).isSome = true) (hk : d.scope.kind = .function) (hco : d.scope.isCoroutine = false) (hgen : d.scope.isGenerator = false)
    (h : ExecsOk c n d.scope.names (upd noSig x₀ e₀) d.body (fun _ => Q .none) Q) : CallOk c (n + 1) f [e₀] Q := by
  subst hf
  refine ⟨fn_known hd, fun a' ha' X A s vs Qm E hA hB hr hQ => ?_⟩
  obtain ⟨a, o, pm, code, doc, h1, h2, h3, h4⟩ := c.top.fn d hd
  rw [h1] at ha'; cases ha'
  obtain ⟨v, vs', rfl, r1, r2⟩ := hr.inv_cons
  obtain rfl := r2.inv_nil
  refine wpAny_call (codeAny_call_cells (fd := Calls.docDef d.name d.params d.body d.scope pm code doc) (body := d.body) (binds := [(x₀, v)]) (by have := hA.depth; omega) (hB.keep _ _ h2) h3 (c.top.nolimit.keeps hB.keep)
    (h4.keeps hB.keep) rfl (hbind pm code doc v) rfl (fun y hy => ?_) (fun s₁ x => ?_) hco hgen hk)
  · obtain rfl := List.mem_singleton.mp hy
    exact .inr ⟨hx, hone _⟩
  have hL0 : c.h₀.get? s.heap.objs.size = Option.none := by
    cases e : c.h₀.get? s.heap.objs.size with
    | none => rfl
    | some o => exact absurd (Heap.lt_size (hB.keep _ _ e)) (Nat.lt_irrefl _)
  obtain ⟨h1', tk1, rfl⟩ := x.toInCall.same
  have hk1 : ∀ b o, s.heap.get? b = some o → h1'.get? b = some o := x.toInCall.keep
  have hkx : (callEnvC (Calls.docDef d.name d.params d.body d.scope pm code doc) s.heap.objs.size a').kindOf x₀ = some .cell := hx
  have S : St c X (callEnvC (Calls.docDef d.name d.params d.body d.scope pm code doc) s.heap.objs.size a') (upd noSig x₀ e₀) h1' :=
    { toBase := hB.grow hk1
      fresh := hL0
      loc := ⟨_, x.toInCall.ns, fun y e hy he => by
        simp only [upd] at he
        by_cases hyx : y = x₀
        · rw [hyx, hkx] at hy; cases hy
        · rw [if_neg hyx] at he; cases he⟩
      cel := fun y e hy he => by
        simp only [upd] at he
        by_cases hyx : y = x₀
        · rw [if_pos hyx] at he; cases he
          subst hyx
          obtain ⟨cl, hcl⟩ := Option.isSome_iff_exists.mp (hone (s.heap.objs.size + 1))
          refine ⟨cl, v, hcl, ?_, r1.extC hB (.of_keep hk1)⟩
          have hc := x.cell y cl hcl
          have e : bindC (callEnvC (Calls.docDef d.name d.params d.body d.scope pm code doc) s.heap.objs.size a').kindOf [(y, v)] (fun _ => Option.none) y = some v := by
            simp only [bindC, hkx]
            rw [if_neg (by intro q; cases q)]
            simp
          rw [e] at hc
          exact hc
        · rw [if_neg hyx] at he; cases he }
  have back : ∀ {h'}, Ext c s.heap.objs.size h1' h' → ExtC c s.heap h' := fun x b o e hs => x b o (hk1 b o e) hs (Nat.ne_of_lt (Heap.lt_size e))
  exact h X _ _ _ _ _ ⟨hk, rfl, rfl, rfl⟩ (room_deeper hA) S (fun σ' h' tk S' x' q' => hQ _ _ h' tk S'.toBase (back x') .none q') fun σ' v e h' tk S' x' r' q' => hQ v e h' tk S'.toBase (back x') r' q'
end
end Mine
namespace Mine
set_option maxRecDepth 100000

section
variable {c : Cx} {n : Nat} {nm : Names} {σ : Sig} {Q : D → Prop} {Qn : Sig → Prop} {Qr : D → Prop}

noncomputable def modI : D → D → (D → Prop) → Prop
  | .int a, .int b, Q => b ≠ 0 ∧ Q (.int (a.fmod b))
  | _, _, _ => False
theorem EvalOk.mod {l r pos} (h : EvalOk c n nm σ l (fun a => EvalOk c n nm σ r (fun b => modI a b Q))) : EvalOk c n nm σ (.BinOp l .Mod r pos) Q := by
  refine EvalOk.binop modI ?_ h
  intro X A env s Qm E va vb a b Q hE hA hS ra rb hr hQ
  cases ra with
  | int i t => cases rb with
    | int j u => exact mod_int' hr.1 (hQ _ _ s.heap _ hS .refl (.int _ _) hr.2)
    | _ => exact hr.elim
  | _ => exact hr.elim

noncomputable def divI : D → D → (D → Prop) → Prop
  | .int a, .int b, Q => b ≠ 0 ∧ b.natAbs < 1073741824 ∧ Q (.int (a.fdiv b))
  | _, _, _ => False
theorem EvalOk.fdiv {l r pos} (h : EvalOk c n nm σ l (fun a => EvalOk c n nm σ r (fun b => divI a b Q))) : EvalOk c n nm σ (.BinOp l .FloorDiv r pos) Q := by
  refine EvalOk.binop divI ?_ h
  intro X A env s Qm E va vb a b Q hE hA hS ra rb hr hQ
  cases ra with
  | int i t => cases rb with
    | int j u => exact floordiv_int hr.1 (hQ _ _ s.heap _ hS .refl (.int _ _) hr.2.2) (.inl (PyProof.noPylong_small hr.2.1))
    | _ => exact hr.elim
  | _ => exact hr.elim

theorem bits_small {a : Int} (h : a.natAbs < 2 ^ 64) : Builtin.Int.intBits a ≤ 64 := by
  unfold Builtin.Int.intBits
  split
  · omega
  · rename_i h0
    have h0' : a.natAbs ≠ 0 := by simpa using h0
    have := (Nat.log2_lt h0').mpr h
    omega
noncomputable def mulI : D → D → (D → Prop) → Prop
  | .int a, .int b, Q => a.natAbs < 2 ^ 64 ∧ Q (.int (a * b))
  | _, _, _ => False
theorem EvalOk.mul {l r pos} (h : EvalOk c n nm σ l (fun a => EvalOk c n nm σ r (fun b => mulI a b Q))) : EvalOk c n nm σ (.BinOp l .Mult r pos) Q := by
  refine EvalOk.binop mulI ?_ h
  intro X A env s Qm E va vb a b Q hE hA hS ra rb hr hQ
  cases ra with
  | int i t => cases rb with
    | int j u => exact P.mul_int (hQ _ _ s.heap _ hS .refl (.int _ _) hr.2) (.of_left (bits_small hr.1))
    | _ => exact hr.elim
  | _ => exact hr.elim
noncomputable def powI : D → D → (D → Prop) → Prop
  | .int a, .int b, Q => 0 ≤ b ∧ b ≤ 1000 ∧ a.natAbs < 2 ^ 64 ∧ Q (.int (a ^ b.toNat))
  | _, _, _ => False
theorem EvalOk.pow {l r pos} (h : EvalOk c n nm σ l (fun a => EvalOk c n nm σ r (fun b => powI a b Q))) : EvalOk c n nm σ (.BinOp l .Pow r pos) Q := by
  refine EvalOk.binop powI ?_ h
  intro X A env s Qm E va vb a b Q hE hA hS ra rb hr hQ
  cases ra with
  | int i t => cases rb with
    | int j u => exact pow_int_small hr.1 (by have := hr.2.1; omega) hr.2.2.1 (hQ _ _ s.heap _ hS .refl (.int _ _) hr.2.2.2)
    | _ => exact hr.elim
  | _ => exact hr.elim

/-- source[k] = e -/
noncomputable def storeD (k : Int) : D → Prop
  | .int i => if k = 0 then 0 ≤ i else if k = 1 then 0 ≤ i ∧ i < 2147483647 else False
  | _ => False

theorem St.source {X : Addr → Prop} {env : Env} {h h' : Heap} {a : Addr} (S : St c X env σ h) (ha : c.src = some a) (sb : Heap.SameBut a h h') (hs : SrcAt h' a) : St c X env σ h' ∧ ExtC c h h' := by
  obtain ⟨k1, k2, n0, m0, t0, u0, ⟨o, ho, hc, kk, hd⟩, _⟩ := S.src a ha
  have k : ∀ b o, b ≠ a → h.get? b = some o → h'.get? b = some o := fun b o hb e => sb.extBut b o hb e
  have x : ExtC c h h' := fun b o e q => k b o (fun r => q (r ▸ ha)) e
  have step : ∀ {v d}, Rep c.src X h v d → Rep c.src X h' v d := fun r => r.extC S.toBase x
  refine ⟨{ keep := fun b o e => ?_, src := fun b e => ?_, live := fun b q => ?_, fresh := S.fresh, loc := ?_, cel := ?_ }, x⟩
  · exact k b o (fun q => by rw [q, k1] at e; cases e) (S.keep b o e)
  · rw [ha] at e; cases e
    exact ⟨k1, k2, hs⟩
  · by_cases hb : b = a
    · obtain ⟨_, _, _, _, ⟨o, ho, _⟩, _⟩ := hs; exact ⟨o, hb ▸ ho⟩
    · obtain ⟨o, e⟩ := S.live b q; exact ⟨o, k b o hb e⟩
  · obtain ⟨m, hn, hv⟩ := S.loc
    obtain ⟨oL, es, ep, hoL, hdL, hr⟩ := id hn
    refine ⟨m, ⟨oL, es, ep, x _ _ hoL (src_not S.toBase hoL (by rw [hdL]; intro _ _ e; cases e)), hdL, hr⟩, fun y d hy he => ?_⟩
    obtain ⟨v, h1, h2⟩ := hv y d hy he
    exact ⟨v, h1, step h2⟩
  · intro y d hy he
    obtain ⟨cl, v, h1, ⟨oc, hoc, hdc⟩, h3⟩ := S.cel y d hy he
    exact ⟨cl, v, h1, ⟨oc, x _ _ hoc (src_not S.toBase hoc (by rw [hdc]; intro _ _ e; cases e)), hdc⟩, step h3⟩

theorem ExecOk.storeSrc {x px k kk pk ps e pos} (hx : nm.lookup x = some .local) (hb : (x == ("__debug__" : Str)) = false) (hσ : σ x = some .src) (hn : noComp e = true) (h : EvalOk c n nm σ e (fun d => storeD k d ∧ Qn σ)) :
    ExecOk c n nm σ (.Assign [.Subscript (.Name x px) (.Constant (.int k) kk pk) ps] e pos) Qn Qr :=
  fun X A env s Qm E hE hA hS hQ _ => by
    refine wpAny_Assign_Subscript (h X A env s _ E hE hA hS fun v d h1 tk1 S1 x1 r1 q1 => ?_) (swaps_plain hn)
    refine EvalOk.name (Q := fun d => d = D.src) (.inl hx) hσ hb rfl X A env _ _ E hE hA S1 fun v2 d2 h2 tk2 S2 x2 r2 q2 => ?_
    subst q2
    refine wpAny_Constant_int ?_
    cases r2 with
    | @src a ha =>
    obtain ⟨_, _, n0, m0, t0, u0, hl, b1, b2, b3⟩ := S2.src a ha
    cases r1 with
    | int i t =>
      obtain ⟨q1, q3⟩ := q1
      simp only [storeD] at q1
      split at q1
      · rename_i hk; subst hk
        refine wpAny_setItem_list hl (by decide) (by decide) (by show (0 : Int) < 2; decide) fun h3 hl3 sb => ?_
        obtain ⟨S3, x3⟩ := S2.source ha sb ⟨i, m0, t, u0, by simpa using hl3, q1, b2, b3⟩
        exact hQ σ h3 _ S3 ((x1.trans x2).trans x3.ext) q3
      · split at q1
        · rename_i hk; subst hk
          refine wpAny_setItem_list hl (by decide) (by decide) (by show (1 : Int) < 2; decide) fun h3 hl3 sb => ?_
          obtain ⟨S3, x3⟩ := S2.source ha sb ⟨n0, i, t0, t, by simpa using hl3, b1, q1.1, q1.2⟩
          exact hQ σ h3 _ S3 ((x1.trans x2).trans x3.ext) q3
        · exact q1.elim
    | _ => exact q1.1.elim


theorem getItem_24 {prog : Program} {w : World} {A : Around} {E : Value → Shared → Prop} {s : Shared} {t sl : Addr} {a b d e : Value} {u u' : Tok} {Q : Value → Shared → Prop} (ht : IsTup s.heap t #[a, b, d, e]) (hs : s.heap.IsSliceOf sl (.int 2 u) (.int 4 u') .none)
    (h : Q (.ref s.heap.objs.size) { s with heap := s.heap.push { cls := .type "tuple", data := .seq #[d, e] } }) : wpAny (model prog w) A (getItem (.ref t) (.ref sl)) Q E s := by
  obtain ⟨os, hos, hcs, hds⟩ := id hs
  have hTs : s.TypeIs (.ref sl) "slice" := ⟨os, hos, hcs⟩
  have hap : ∀ (K : Int × Int × Nat → Shared → Prop), K (2, 1, 2) s → wpAny (model prog w) A.in1 (Builtin.Slice.sliceApplied (.ref sl) (pure (4 : Int))) K E s := fun K hK => by
    unfold Builtin.Slice.sliceApplied Builtin.Slice.sliceFields
    refine wpAny_bind (wpAny_bind (wpAny_field hos hds (x := .int 2 u) rfl (wpAny_bind (wpAny_field hos hds (x := .int 4 u') rfl (wpAny_bind (wpAny_field hos hds (x := .none) rfl (wpAny_pure ?_)))))))
    refine wpAny_bind (slicePart_none ?_)
    show wpAny _ _ (if ((1 : Int) == 0) = true then _ else _) _ _ s
    rw [if_neg (by decide)]
    refine wpAny_bind (slicePart_int (wpAny_bind (slicePart_int (wpAny_bind (wpAny_pure ?_)))))
    exact wpAny_pure hK
  unfold getItem
  try with_reducible refine wpAny_holding ?_
  first | refine wpAny_bind (wpAny_pure ?_) | skip
  refine wpAny_bind (wpAny_sequenceKey ht.typeIs (by decide) ?_)
  refine wpAny_bind (wpAny_callSpecial?_slot (name := Str.ofString "__getitem__") ht.typeIs slot_tuple_getitem
    (wpAny_call_entry slot_tuple_getitem ht.typeIs entry_tuple_getitem ?_ (args_tuple_getitem _ _)))
  show wpAny _ _ (Builtin.Tuple.tupleItemsOf (.ref t) >>= _) _ _ s
  refine wpAny_bind (tupleItemsOf_ ht ?_)
  refine wpAny_bind (wpAny_typeOf hTs ?_)
  rw [if_pos (by decide)]
  refine wpAny_bind (hap _ ?_)
  show wpAny _ _ (if ((2 : Int) == 0 && (1 : Int) == 1 && (2 : Nat) == 4) = true then _ else _) _ _ s
  rw [if_neg (by decide)]
  have hpick : ((List.range 2).filterMap fun (k : Nat) => (#[a, b, d, e] : Array Value)[((2 : Int) + (k : Int) * 1).toNat]?).toArray = #[d, e] := rfl
  have hsz : sizeOk (.seq #[d, e]) := by show (2 : Nat) ≤ sizeLine; decide
  first
    | exact wpAny_bind (m := Builtin.Tuple.tupleExact _) (wpAny_newObj_type (wpAny_pure ⟨_, rfl, wpAny_pure h⟩) hsz)
    | exact wpAny_bind (m := Builtin.Tuple.tupleExact _) (wpAny_newObj_type (wpAny_bind (wpAny_pure (wpAny_pure ⟨_, rfl, wpAny_pure h⟩))) hsz)
    | exact wpAny_bind (wpAny_bind (m := Builtin.Tuple.tupleExact _) (wpAny_newObj_type (wpAny_pure (wpAny_pure ⟨_, rfl, wpAny_pure h⟩)) hsz))
    | exact wpAny_bind (wpAny_bind (m := Builtin.Tuple.tupleExact _) (wpAny_newObj_type (wpAny_pure ⟨_, rfl, wpAny_pure h⟩) hsz))

noncomputable def cutD : D → (D → Prop) → Prop
  | .tup [_, _, d, e], Q => Q (.tup [d, e])
  | _, _ => False

theorem EvalOk.cut {v k1 p1 k2 p2 ps pos} (h : EvalOk c n nm σ v (fun a => cutD a Q)) : EvalOk c n nm σ (.Subscript v (.Slice (some (.Constant (.int 2) k1 p1)) (some (.Constant (.int 4) k2 p2)) Option.none ps) pos) Q :=
  fun X A env s Qm E hE hA hS hQ => by
    refine Subscript_ (h X A env s _ E hE hA hS fun va a h1 tk1 S1 x1 r1 q1 => ?_)
    rw [arm_eval_Slice]
    show wpAny _ A (eval (.Constant (.int 2) k1 p1) env >>= _) _ _ _
    refine wpAny_bind (wpAny_Constant_int ?_)
    refine wpAny_bind (wpAny_holding ?_)
    show wpAny _ A (eval (.Constant (.int 4) k2 p2) env) _ _ _
    refine wpAny_Constant_int ?_
    refine wpAny_bind (wpAny_holding (wpAny_pure ?_))
    refine wpAny_newObj_type ?_
    cases r1 with
    | @tup ta vs ds hx ht hn hi =>
      match ds, q1 with
      | [d1, d2, d3, d4], q1 =>
        have r : RepL c.src X h1 vs [d1, d2, d3, d4] := ⟨hn, hi⟩
        obtain ⟨v1, w1, rfl, r1, q⟩ := r.inv_cons
        obtain ⟨v2, w2, rfl, r2, q⟩ := q.inv_cons
        obtain ⟨v3, w3, rfl, r3, q⟩ := q.inv_cons
        obtain ⟨v4, w4, rfl, r4, q⟩ := q.inv_cons
        obtain rfl := q.inv_nil
        have g := push_keep (h := h1) { cls := .type "slice", data := .fields #[.int 2 tk1, .int 4 (tk1 + 1), .none] }
        have S2 := S1.grow g
        refine tail_any (ops := [.ref _, .ref _]) (ht.push _).typeIs slot_tuple_getitem.lookup (getItem_24 (u := tk1) (u' := tk1 + 1) (ht.push _) (Heap.IsSliceOf.new ..) ?_) rfl
        refine hQ _ _ _ _ (S2.grow (push_keep _)) ((x1.trans (ExtC.of_keep g).ext).trans (ExtC.of_keep (push_keep _)).ext) (new_tup S2.toBase (vs := [v3, v4]) (ds := [d3, d4]) ?_) q1
        exact RepL.extC S1.toBase (.of_keep g) (.cons r3 (.cons r4 .nil))
    | _ => exact q1.elim
end
end Mine
namespace Mine
set_option maxRecDepth 100000

/-! the obligation of a term, computed -/
structure WF where
  ev : Names → Sig → Expr → (D → Prop) → Prop
  ts : Names → Sig → Expr → (Bool → Prop) → Prop
  ex : Names → Sig → Stmt → (Sig → Prop) → (D → Prop) → Prop

noncomputable def constW : Const → (D → Prop) → Prop
  | .str x, Q => Q (.str x)
  | .int i, Q => Q (.int i)
  | .bool b, Q => Q (.bool b)
  | .none, Q => Q .none
  | _, _ => False

noncomputable def nameW (nm : Names) (σ : Sig) (x : Str) (Q : D → Prop) : Prop :=
  match nm.lookup x with
  | some .local => (match σ x with | some d => Q d | Option.none => False)
  | some .cell => (match σ x with | some d => Q d | Option.none => False)
  | _ => False

noncomputable def addW : D → D → (D → Prop) → Prop
  | .str x, .str y, Q => x.length + y.length ≤ sizeLine ∧ Q (.str (x ++ y))
  | .lst xs, .lst ys, Q => (match Nat.ble (xs.length + ys.length) 1000 with | true => Q (.lst (xs ++ ys)) | false => False)
  | .int a, .int b, Q => Q (.int (a + b))
  | _, _, _ => False
theorem addW_ok {a b : D} {Q : D → Prop} (h : addW a b Q) : addD a b Q := by
  cases a <;> cases b <;> first | exact h | skip
  simp only [addW] at h
  split at h
  · rename_i hl
    have := Nat.le_of_ble_eq_true hl
    exact ⟨by rw [sizeLine_eq]; omega, h⟩
  · exact h.elim
noncomputable def lenW : D → (D → Prop) → Prop
  | .tup ds, Q => (match Nat.ble ds.length 1000 with | true => Q (.int ds.length) | false => False)
  | .lst ds, Q => (match Nat.ble ds.length 1000 with | true => Q (.int ds.length) | false => False)
  | _, _ => False
theorem lenW_ok {a : D} {Q : D → Prop} (h : lenW a Q) : lenD a Q := by
  cases a <;> first | exact h | skip
  all_goals
    simp only [lenW] at h
    split at h
    · rename_i hl
      have := Nat.le_of_ble_eq_true hl
      exact ⟨by omega, h⟩
    · exact h.elim
noncomputable def tupW : D → (D → Prop) → Prop
  | .lst ds, Q => (match Nat.ble ds.length 1000 with | true => Q (.tup ds) | false => False)
  | _, _ => False
theorem tupW_ok {a : D} {Q : D → Prop} (h : tupW a Q) : tupD a Q := by
  cases a <;> first | exact h | skip
  simp only [tupW] at h
  split at h
  · rename_i hl
    have := Nat.le_of_ble_eq_true hl
    exact ⟨by rw [sizeLine_eq]; omega, h⟩
  · exact h.elim
noncomputable def joinW (x : Str) : D → (D → Prop) → Prop
  | .lst ds, Q => (match strsOf ds with | some ys => (ys.map (·.length)).sum + ys.length * x.length ≤ 16777216 ∧ Q (.str (Str.join x ys)) | Option.none => False)
  | _, _ => False
theorem joinW_ok {x : Str} {a : D} {Q : D → Prop} (h : joinW x a Q) : joinD x a Q := by
  cases a <;> first | exact h | skip
  simp only [joinW] at h
  split at h
  · rename_i ys hys; exact ⟨ys, hys, h.1, h.2⟩
  · exact h.elim
noncomputable def binW : Operator → D → D → (D → Prop) → Prop
  | .Add, a, b, Q => addW a b Q
  | .Sub, a, b, Q => subI a b Q
  | .Mod, a, b, Q => modI a b Q
  | .FloorDiv, a, b, Q => divI a b Q
  | .Mult, a, b, Q => mulI a b Q
  | .Pow, a, b, Q => powI a b Q
  | _, _, _, _ => False

noncomputable def unW : UnaryOp → Expr → (D → Prop) → Prop
  | .USub, .Constant (.int i) _ _, Q => Q (.int (-i))
  | _, _, _ => False

noncomputable def isStar : Expr → Bool
  | .Starred .. => true
  | _ => false
theorem isStar_false {e : Expr} (h : isStar e = false) : ∀ x p, e ≠ .Starred x p := by
  rintro x p rfl; cases h
noncomputable def isSlice : Expr → Bool
  | .Slice .. => true
  | _ => false
theorem isSlice_false {e : Expr} (h : isSlice e = false) : ∀ l u st p, e ≠ .Slice l u st p := by
  rintro l u st p rfl; cases h

noncomputable def evL (W : WF) (nm : Names) (σ : Sig) (es : List Expr) : (List D → Prop) → Prop :=
  List.rec (motive := fun _ => (List D → Prop) → Prop) (fun Q => Q []) (fun e _ ih Q => match isStar e with
    | true => False
    | false => W.ev nm σ e fun d => ih fun ds => Q (d :: ds)) es

noncomputable def idxD : Int → Nat → Option Nat
  | .ofNat j, len => match Nat.ble (j + 1) len with | true => some j | false => Option.none
  | .negSucc j, len => match Nat.ble (j + 1) len with | true => some (len - (j + 1)) | false => Option.none

noncomputable def itemW : D → D → (D → Prop) → Prop
  | .tup ds, .int k, Q => (match Nat.ble ds.length 1000 with
    | true => (match idxD k ds.length with
      | some j => (match ds[j]? with | some d => Q d | Option.none => False)
      | Option.none => False)
    | false => False)
  | .lst ds, .int k, Q => (match Nat.ble ds.length 1000 with
    | true => (match k with
      | .ofNat j => (match ds[j]? with | some d => Q d | Option.none => False)
      | .negSucc _ => False)
    | false => False)
  | .src, .int k, Q => (match k with
    | .ofNat 0 => ∀ i, 0 ≤ i → Q (.int i)
    | .ofNat 1 => ∀ i, 0 ≤ i → i < 2147483647 → Q (.int i)
    | _ => False)
  | _, _, _ => False

theorem itemW_ok {a b : D} {Q : D → Prop} (h : itemW a b Q) : itemD a b Q := by
  cases a with
  | tup ds =>
    cases b with
    | int k =>
      simp only [itemW] at h
      split at h
      · rename_i hl
        have hl' : ds.length ≤ 1000 := Nat.le_of_ble_eq_true hl
        split at h
        · rename_i j hj
          split at h
          · rename_i d hd
            have hjl : j < ds.length := (List.getElem?_eq_some_iff.mp hd).1
            cases k with
            | ofNat i =>
              simp only [idxD] at hj
              split at hj
              · rename_i hb
                injection hj with hj
                subst hj
                have := Nat.le_of_ble_eq_true hb
                refine ⟨by show -(2 ^ 63 : Int) ≤ (i : Int); omega, by show (i : Int) < 2 ^ 63; omega, i, d, ?_, hd, h⟩
                unfold seqIndex?
                have h1 : ¬ ((Int.ofNat i) < 0) := by show ¬ ((i : Int) < 0); omega
                simp only [if_neg h1]
                rw [if_pos (by simp; omega)]
                rfl
              · cases hj
            | negSucc i =>
              simp only [idxD] at hj
              split at hj
              · rename_i hb
                injection hj with hj
                subst hj
                have := Nat.le_of_ble_eq_true hb
                refine ⟨by omega, by omega, ds.length - (i + 1), d, ?_, hd, h⟩
                unfold seqIndex?
                have h1 : (Int.negSucc i) < 0 := by omega
                simp only [if_pos h1]
                have e : Int.negSucc i + (ds.length : Int) = ((ds.length - (i + 1) : Nat) : Int) := by omega
                rw [e, if_pos (by simp; omega)]
                rfl
              · cases hj
          · exact h.elim
        · exact h.elim
      · exact h.elim
    | _ => exact h.elim
  | lst ds =>
    cases b with
    | int k =>
      simp only [itemW] at h
      split at h
      · rename_i hl
        have hl' : ds.length ≤ 1000 := Nat.le_of_ble_eq_true hl
        split at h
        · rename_i j
          split at h
          · rename_i d hd
            have hjl : j < ds.length := (List.getElem?_eq_some_iff.mp hd).1
            exact ⟨by show (0 : Int) ≤ (j : Int); omega, by show (j : Int) < 2 ^ 63; omega, d, hd, h⟩
          · exact h.elim
        · exact h.elim
      · exact h.elim
    | _ => exact h.elim
  | src =>
    cases b with
    | int k =>
      simp only [itemW] at h
      split at h
      · show if (0 : Int) = 0 then ∀ i, 0 ≤ i → Q (.int i) else if (0 : Int) = 1 then ∀ i, 0 ≤ i → i < 2147483647 → Q (.int i) else False
        rw [if_pos rfl]; exact h
      · show if (1 : Int) = 0 then ∀ i, 0 ≤ i → Q (.int i) else if (1 : Int) = 1 then ∀ i, 0 ≤ i → i < 2147483647 → Q (.int i) else False
        rw [if_neg (by decide), if_pos rfl]; exact h
      · exact h.elim
    | _ => exact h.elim
  | _ => exact h.elim

noncomputable def subW (W : WF) (nm : Names) (σ : Sig) (v s : Expr) (Q : D → Prop) : Prop :=
  match s with
  | .Slice (some (.Constant (.int (.ofNat 2)) _ _)) (some (.Constant (.int (.ofNat 4)) _ _)) Option.none _ => W.ev nm σ v fun a => cutD a Q
  | s => match isSlice s with
    | true => False
    | false => W.ev nm σ v fun a => W.ev nm σ s fun b => itemW a b Q

inductive Blt where
  | len | str | tuple | range | isinstance
noncomputable def bltOf (f : Str) : Option Blt :=
  if f = Str.ofString "len" then some .len else if f = Str.ofString "str" then some .str else if f = Str.ofString "tuple" then some .tuple else if f = Str.ofString "range" then some .range
  else if f = Str.ofString "isinstance" then some .isinstance else Option.none
noncomputable def tyOf (f : Str) : Option Ty :=
  if f = Str.ofString "bool" then some .bool else if f = Str.ofString "str" then some .str else if f = Str.ofString "tuple" then some .tuple else Option.none
noncomputable def isGlob (nm : Names) (f : Str) : Bool := match nm.lookup f with | some .globalImplicit => true | _ => false
theorem isGlob_iff {nm : Names} {f : Str} (h : isGlob nm f = true) : nm.lookup f = some .globalImplicit := by
  unfold isGlob at h; split at h
  · assumption
  · cases h

noncomputable def bltW (W : WF) (nm : Names) (σ : Sig) : Blt → List Expr → (D → Prop) → Prop
  | .len, [e], Q => W.ev nm σ e fun a => lenW a Q
  | .str, [e], Q => W.ev nm σ e fun a => strD a Q
  | .tuple, [e], Q => W.ev nm σ e fun a => tupW a Q
  | .range, [e], Q => W.ev nm σ e fun a => rngD a Q
  | .isinstance, [e, .Name T _], Q => (match tyOf T, isGlob nm T with
    | some ty, true => W.ev nm σ e fun a => (match isiD a ty with | some b => Q (.bool b) | Option.none => False)
    | _, _ => False)
  | _, _, _ => False

noncomputable def callW (c : Cx) (n : Nat) (W : WF) (nm : Names) (σ : Sig) (f : Expr) (args : List Expr) (ks : List Keyword) (pos : Pos) (Q : D → Prop) : Prop :=
  match f, args, ks with
  | .Name f _, e :: es, [] => (match isStar e, isGlob nm f with
    | false, true => (match bltOf f with
      | some b => bltW W nm σ b (e :: es) Q
      | Option.none => (match defNames.elem f with
        | true => evL W nm σ (e :: es) fun ds => CallOk c n f ds Q
        | false => False))
    | _, _ => False)
  | .Attribute (.Constant (.str x) _ _) m apos, [e], [] => (match isStar e, m == ("join" : Str), apos.endLine == pos.line with
    | false, true, true => W.ev nm σ e fun a => joinW x a Q
    | _, _, _ => False)
  | _, _, _ => False

noncomputable def noStars : List Expr → Bool
  | [] => true
  | e :: es => !isStar e && noStars es
theorem noStars_iff : ∀ {ts : List Expr}, noStars ts = true → ∀ t ∈ ts, ∀ x p, t ≠ .Starred x p
  | [], _, _, h => by cases h
  | t :: ts, ha, t', h => by
    simp only [noStars, Bool.and_eq_true, Bool.not_eq_true'] at ha
    rcases List.mem_cons.mp h with rfl | h
    · exact isStar_false ha.1
    · exact noStars_iff ha.2 t' h

noncomputable def asgL (f : Expr → D → Sig → (Sig → Prop) → Prop) (ts : List Expr) : List D → Sig → (Sig → Prop) → Prop :=
  List.rec (motive := fun _ => List D → Sig → (Sig → Prop) → Prop) (fun ds σ Q => match ds with | [] => Q σ | _ => False)
    (fun t _ ih ds σ Q => match ds with | [] => False | d :: ds => f t d σ fun σ' => ih ds σ' Q) ts
noncomputable def asgT (nm : Names) (ih : Expr → D → Sig → (Sig → Prop) → Prop) (t : Expr) (d : D) (σ : Sig) (Q : Sig → Prop) : Prop :=
  match t with
  | .Name x _ => (match nm.lookup x with | some .local => Q (upd σ x d) | _ => False)
  | .Tuple es _ _ => (match d with
    | .tup ds => (match noStars es, Nat.beq es.length ds.length with | true, true => asgL ih es ds σ Q | _, _ => False)
    | _ => False)
  | _ => False
noncomputable def asgW (nm : Names) (k : Nat) : Expr → D → Sig → (Sig → Prop) → Prop :=
  Nat.rec (motive := fun _ => Expr → D → Sig → (Sig → Prop) → Prop) (fun _ _ _ _ => False) (fun _ ih => asgT nm ih) k

noncomputable def compStep (W : WF) (nm : Names) (ifs : List Expr) (elt : Expr) (σ' : Sig) (add : D → Prop) (skip : Prop) : Prop :=
  match ifs with
  | [] => W.ev nm σ' elt add
  | [f] => W.ts nm σ' f fun b => (match b with | true => W.ev nm σ' elt add | false => skip)
  | _ => False
noncomputable def compW (W : WF) (nm : Names) (t : Expr) (ifs : List Expr) (elt : Expr) (σ₀ : Sig) (ds : List D) : List D → (List D → Prop) → Prop :=
  List.rec (motive := fun _ => List D → (List D → Prop) → Prop) (fun acc Q => Q acc) (fun d _ ih acc Q => asgW nm 4 t d σ₀ fun σ' => compStep W nm ifs elt σ' (fun y => ih (acc ++ [y]) Q) (ih acc Q)) ds

noncomputable def noDebug (nm : Names) : Bool := nm.all fun x => x.1 != ("__debug__" : Str)
noncomputable def compChk (nm : Names) (σ : Sig) (scope : Scope) : Bool :=
  decide (scope.kind = .function) && scope.names.all (fun x => decide (x.2 ≠ .cell)) && scope.names.all (fun x => decide (x.2 = .local → scope.names.lookup x.1 = some .local)) && noDebug scope.names &&
    scope.names.all (fun x => decide (x.2 = .free → nm.lookup x.1 = some .cell) && (decide (x.2 ≠ .free) || (σ x.1).isSome))

noncomputable def lcW (W : WF) (nm : Names) (σ : Sig) (elt : Expr) (gens : List Comprehension) (scope : Scope) (Q : List D → Prop) : Prop :=
  match gens with
  | [⟨t, it, ifs, .ofNat 0⟩] => (match compChk nm σ scope, noSet it with
    | true, true => W.ev nm σ it fun d => (match itemsD d with
      | some ds => (match Nat.ble ds.length 100000 with
        | true => compW W (relN nm scope.names) t ifs elt (cellSig (relN nm scope.names) σ) ds [] Q
        | false => False)
      | Option.none => False)
    | _, _ => False)
  | _ => False

noncomputable def evS (c : Cx) (n : Nat) (W : WF) (nm : Names) (σ : Sig) (e : Expr) (Q : D → Prop) : Prop :=
  match e with
  | .Constant v _ _ => constW v Q
  | .Name x _ => nameW nm σ x Q
  | .BinOp l op r _ => W.ev nm σ l fun a => W.ev nm σ r fun b => binW op a b Q
  | .UnaryOp op x _ => unW op x Q
  | .IfExp t a b _ => W.ts nm σ t fun x => (match x with | true => W.ev nm σ a Q | false => W.ev nm σ b Q)
  | .Tuple es _ _ => (match Nat.ble es.length 1000 with | true => evL W nm σ es fun ds => Q (.tup ds) | false => False)
  | .List es _ => (match Nat.ble es.length 1000 with | true => evL W nm σ es fun ds => Q (.lst ds) | false => False)
  | .Subscript v s _ => subW W nm σ v s Q
  | .Call f args ks pos => callW c n W nm σ f args ks pos Q
  | .ListComp elt gens scope _ => lcW W nm σ elt gens scope fun ys => Q (.lst ys)
  | _ => False

noncomputable def cmpW : CmpOp → D → D → (Bool → Prop) → Prop
  | .In, .str x, .tup ds, Q => (match strsOf ds with | some ys => Q (ys.any (· == x)) | Option.none => False)
  | op, a, b, Q => (match cmpD op a b with | some r => Q r | Option.none => False)

noncomputable def orW (W : WF) (nm : Names) (σ : Sig) (xs : List Expr) : (Bool → Prop) → Prop :=
  List.rec (motive := fun _ => (Bool → Prop) → Prop) (fun Q => Q false) (fun x _ ih Q => W.ts nm σ x fun b => (match b with | true => Q true | false => ih Q)) xs

noncomputable def tsS (W : WF) (nm : Names) (σ : Sig) (e : Expr) (Q : Bool → Prop) : Prop :=
  match e with
  | .Compare l [op] [r] _ => (match behindInMarks op r with | false => W.ev nm σ l fun a => W.ev nm σ r fun b => cmpW op a b Q | true => False)
  | .BoolOp .Or xs _ => orW W nm σ xs Q
  | e => (match plainTest e with | true => W.ev nm σ e fun d => (match d with | .bool b => Q b | _ => False) | false => False)

noncomputable def exL (W : WF) (nm : Names) (sts : List Stmt) : Sig → (Sig → Prop) → (D → Prop) → Prop :=
  List.rec (motive := fun _ => Sig → (Sig → Prop) → (D → Prop) → Prop) (fun σ Qn _ => Qn σ) (fun st _ ih σ Qn Qr => W.ex nm σ st (fun σ' => ih σ' Qn Qr) Qr) sts

noncomputable def forW (W : WF) (nm : Names) (x : Str) (body : List Stmt) (ds : List D) : Sig → (Sig → Prop) → (D → Prop) → Prop :=
  List.rec (motive := fun _ => Sig → (Sig → Prop) → (D → Prop) → Prop) (fun σ Qn _ => Qn σ) (fun d _ ih σ Qn Qr => exL W nm body (upd σ x d) (fun σ' => ih σ' Qn Qr) Qr) ds

noncomputable def isLocal (nm : Names) (f : Str) : Bool := match nm.lookup f with | some .local => true | _ => false
theorem isLocal_iff {nm : Names} {f : Str} (h : isLocal nm f = true) : nm.lookup f = some .local := by
  unfold isLocal at h; split at h
  · assumption
  · cases h

noncomputable def asgTW (W : WF) (nm : Names) (σ : Sig) (ts : List Expr) (e : Expr) (Qn : Sig → Prop) : Prop :=
  match noComp e && okConst e with
  | true => (match allNames ts with
    | true => (match (nameIds ts).all (isLocal nm) && decide (nameIds ts).Nodup with
      | true => W.ev nm σ e fun d => (match d with
        | .tup ds => (match Nat.beq ts.length ds.length with | true => Qn (upds (nameIds ts) ds σ) | false => False)
        | _ => False)
      | false => False)
    | false => (match noStars ts with
      | true => W.ev nm σ e fun d => (match d with
        | .tup ds => (match Nat.beq ts.length ds.length with | true => asgL (asgW nm 4) ts ds σ Qn | false => False)
        | _ => False)
      | false => False))
  | false => False

noncomputable def asg1W (W : WF) (nm : Names) (σ : Sig) (t : Expr) (e : Expr) (Qn : Sig → Prop) : Prop :=
  match t with
  | .Name x _ => (match isLocal nm x with
    | true => (match e with
      | .ListComp elt gens scope _ => lcW W nm σ elt gens scope fun ys => Qn (upd σ x (.lst ys))
      | e => (match noComp e with | true => W.ev nm σ e fun d => Qn (upd σ x d) | false => False))
    | false => False)
  | .Tuple ts _ _ => asgTW W nm σ ts e Qn
  | .Subscript (.Name x _) (.Constant (.int k) _ _) _ => (match isLocal nm x, noComp e, σ x with
    | true, true, some .src => W.ev nm σ e fun d => storeD k d ∧ Qn σ
    | _, _, _ => False)
  | _ => False

noncomputable def exS (W : WF) (nm : Names) (σ : Sig) (st : Stmt) (Qn : Sig → Prop) (Qr : D → Prop) : Prop :=
  match st with
  | .Return (some e) _ => W.ev nm σ e Qr
  | .If t a b _ => W.ts nm σ t fun x => (match x with | true => exL W nm a σ Qn Qr | false => exL W nm b σ Qn Qr)
  | .Assign [t] e _ => asg1W W nm σ t e Qn
  | .For (.Name x _) it body [] _ => (match isLocal nm x, noSet it with
    | true, true => W.ev nm σ it fun d => (match itemsD d with | some ds => forW W nm x body ds σ Qn Qr | Option.none => False)
    | _, _ => False)
  | _ => False

noncomputable def botW : WF := ⟨fun _ _ _ _ => False, fun _ _ _ _ => False, fun _ _ _ _ _ => False⟩
noncomputable def stepW (c : Cx) (n : Nat) (W : WF) : WF := ⟨evS c n W, tsS W, exS W⟩
noncomputable def Wn (c : Cx) (n : Nat) (k : Nat) : WF := Nat.rec botW (fun _ W => stepW c n W) k
end Mine
namespace Mine
set_option maxRecDepth 100000

structure Snd (c : Cx) (n : Nat) (W : WF) : Prop where
  ev : ∀ nm, noDebug nm = true → ∀ σ e Q, W.ev nm σ e Q → EvalOk c n nm σ e Q
  ts : ∀ nm, noDebug nm = true → ∀ σ e Q, W.ts nm σ e Q → TestOk c n nm σ e Q
  ex : ∀ nm, noDebug nm = true → ∀ σ e Qn Qr, W.ex nm σ e Qn Qr → ExecOk c n nm σ e Qn Qr

theorem lookup_mem {nm : Names} {x : Str} {k : NameKind} (h : nm.lookup x = some k) : (x, k) ∈ nm := by
  rw [List.lookup_eq_some_iff] at h
  obtain ⟨l1, l2, e, _⟩ := h
  rw [e]; simp
theorem noDebug_ne {nm : Names} {x : Str} {k : NameKind} (h : noDebug nm = true) (hx : nm.lookup x = some k) : (x == ("__debug__" : Str)) = false := by
  unfold noDebug at h
  rw [List.all_eq_true] at h
  have := h _ (lookup_mem hx)
  simpa using this

section
variable {c : Cx} {n : Nat} {W : WF} {nm : Names} {σ : Sig}

theorem evL_ok (S : Snd c n W) (hn : noDebug nm = true) : ∀ {es : List Expr} {Q : List D → Prop}, evL W nm σ es Q → EvalsOk c n nm σ es (fun ds => ds.length = es.length ∧ Q ds)
  | [], Q, h => .nil ⟨rfl, h⟩
  | e :: es, Q, h => by
    replace h : (match isStar e with | true => False | false => W.ev nm σ e fun d => evL W nm σ es fun ds => Q (d :: ds)) := h
    split at h
    · exact h.elim
    · rename_i he
      refine .cons (isStar_false he) ((S.ev nm hn σ e _ h).mono fun d hd => ?_)
      exact (evL_ok S hn hd).mono fun ds hds => ⟨by simp [hds.1], hds.2⟩

theorem asgL_ok {f : Expr → D → Sig → (Sig → Prop) → Prop} (hf : ∀ t d σ Q, f t d σ Q → AsgOk c nm σ t d Q) : ∀ {ts : List Expr} {ds : List D} {σ : Sig} {Q : Sig → Prop}, (∀ t ∈ ts, ∀ x p, t ≠ .Starred x p) → asgL f ts ds σ Q → AsgsOk c nm ts ds σ Q
  | [], [], _, _, _, h => h
  | [], _ :: _, _, _, _, h => h.elim
  | _ :: _, [], _, _, _, h => h.elim
  | t :: ts, d :: ds, σ, Q, hp, h => ⟨hp t List.mem_cons_self, (hf t d σ _ h).mono fun σ' h' => asgL_ok hf (fun t ht => hp t (List.mem_cons_of_mem _ ht)) h'⟩

theorem asgW_ok : ∀ (k : Nat) (t : Expr) (d : D) (σ : Sig) (Q : Sig → Prop), asgW nm k t d σ Q → AsgOk c nm σ t d Q := by
  intro k
  induction k with
  | zero => intro t d σ Q h; exact h.elim
  | succ k ih =>
    intro t d σ Q h
    replace h : asgT nm (asgW nm k) t d σ Q := h
    cases t with
    | Name x p =>
      simp only [asgT] at h
      split at h
      · rename_i hx; exact .name hx h
      · exact h.elim
    | Tuple es kk p =>
      cases d with
      | tup ds =>
        simp only [asgT] at h
        split at h
        · rename_i h1 h2
          exact .tuple (noStars_iff h1) (Nat.eq_of_beq_eq_true h2) (asgL_ok ih (noStars_iff h1) h)
        · exact h.elim
      | _ => exact h.elim
    | _ => exact h.elim

theorem compW_ok (S : Snd c n W) (hn : noDebug nm = true) {t : Expr} {ifs : List Expr} {elt : Expr} {σ₀ : Sig} : ∀ {ds acc : List D} {Q : List D → Prop}, compW W nm t ifs elt σ₀ ds acc Q → CompOk c n nm t ifs elt σ₀ ds acc Q
  | [], acc, Q, h => h
  | d :: ds, acc, Q, h => by
    replace h : asgW nm 4 t d σ₀ (fun σ' => compStep W nm ifs elt σ' (fun y => compW W nm t ifs elt σ₀ ds (acc ++ [y]) Q) (compW W nm t ifs elt σ₀ ds acc Q)) := h
    refine (asgW_ok 4 t d σ₀ _ h).mono fun σ' h' => ?_
    cases ifs with
    | nil => exact (S.ev nm hn σ' elt _ h').mono fun y hy => compW_ok S hn hy
    | cons f fs =>
      cases fs with
      | nil =>
        refine (S.ts nm hn σ' f _ h').mono fun b hb => ?_
        cases b with
        | true => rw [if_pos rfl]; exact (S.ev nm hn σ' elt _ hb).mono fun y hy => compW_ok S hn hy
        | false => rw [if_neg (by decide)]; exact compW_ok S hn hb
      | cons _ _ => exact h'.elim

theorem noDebug_relN {l : Names} (h : noDebug l = true) : noDebug (relN nm l) = true := by
  unfold noDebug relN at *
  rw [List.all_eq_true] at *
  intro x hx
  obtain ⟨y, hy, rfl⟩ := List.mem_map.mp hx
  have := h y hy
  split <;> exact this

theorem lcW_ok (S : Snd c n W) (hn : noDebug nm = true) {elt : Expr} {gens : List Comprehension} {scope : Scope} {Q : List D → Prop} (h : lcW W nm σ elt gens scope Q) :
    ∃ t it ifs, gens = [⟨t, it, ifs, 0⟩] ∧ scope.kind = .function ∧ (∀ y ∈ scope.names, y.2 ≠ .cell) ∧ (∀ y ∈ scope.names, y.2 = .local → scope.names.lookup y.1 = some .local) ∧ noSet it = true ∧
      (∀ y ∈ scope.names, y.2 = .free → nm.lookup y.1 = some .cell ∧ ∃ d, σ y.1 = some d) ∧
      EvalOk c n nm σ it (fun d => ∃ ds, itemsD d = some ds ∧ ds.length ≤ 100000 ∧ CompOk c n (relN nm scope.names) t ifs elt (cellSig (relN nm scope.names) σ) ds [] Q) := by
  unfold lcW at h
  split at h
  · rename_i t it ifs
    split at h
    · rename_i h1 h2
      simp only [compChk, Bool.and_eq_true, List.all_eq_true, decide_eq_true_eq, Bool.or_eq_true] at h1
      obtain ⟨⟨⟨⟨k1, k2⟩, k3⟩, k4⟩, k5⟩ := h1
      refine ⟨t, it, ifs, rfl, k1, k2, k3, h2, fun y hy hf => ?_, ?_⟩
      · obtain ⟨h3, h4⟩ := k5 y hy
        exact ⟨h3 hf, Option.isSome_iff_exists.mp (h4.elim (fun q => absurd hf q) id)⟩
      · refine (S.ev nm hn σ it _ h).mono fun d hd => ?_
        split at hd
        · rename_i ds hds
          split at hd
          · rename_i hl
            exact ⟨ds, hds, Nat.le_of_ble_eq_true hl, compW_ok S (noDebug_relN k4) hd⟩
          · exact hd.elim
        · exact hd.elim
    · exact h.elim
  · exact h.elim

theorem debug_of_def {f : Str} (h : defNames.elem f = true) : (f == ("__debug__" : Str)) = false := by
  have h1 : f ∈ defNames := List.elem_iff.mp h
  have h2 : ∀ x ∈ defNames, (x == ("__debug__" : Str)) = false := by decide
  exact h2 f h1

theorem exL_ok (S : Snd c n W) (hn : noDebug nm = true) : ∀ {sts : List Stmt} {σ : Sig} {Qn : Sig → Prop} {Qr : D → Prop}, exL W nm sts σ Qn Qr → ExecsOk c n nm σ sts Qn Qr
  | [], _, _, _, h => .nil h
  | st :: sts, σ, Qn, Qr, h => .cons ((S.ex nm hn σ st _ _ h).mono (fun σ' h' => exL_ok S hn h') fun _ h => h)

theorem forW_ok (S : Snd c n W) (hn : noDebug nm = true) {x : Str} {body : List Stmt} : ∀ {ds : List D} {σ : Sig} {Qn : Sig → Prop} {Qr : D → Prop}, forW W nm x body ds σ Qn Qr → ForOk c n nm x body ds σ Qn Qr
  | [], _, _, _, h => h
  | d :: ds, σ, Qn, Qr, h => (exL_ok S hn h).mono (fun σ' h' => forW_ok S hn h') fun _ h => h

noncomputable def bltText : Blt → String
  | .len => "len" | .str => "str" | .tuple => "tuple" | .range => "range" | .isinstance => "isinstance"
theorem bltOf_some {f : Str} {b : Blt} (h : bltOf f = some b) : f = Str.ofString (bltText b) := by
  unfold bltOf at h
  repeat' (split at h)
  all_goals first | (cases h; assumption) | cases h
theorem tyOf_some {f : Str} {b : Ty} (h : tyOf f = some b) : f = Str.ofString b.text := by
  unfold tyOf at h
  repeat' (split at h)
  all_goals first | (cases h; assumption) | cases h

theorem callW_ok (S : Snd c n W) (hn : noDebug nm = true) {f : Expr} {args : List Expr} {ks : List Keyword} {pos : Pos} {Q : D → Prop} (h : callW c n W nm σ f args ks pos Q) : EvalOk c n nm σ (.Call f args ks pos) Q := by
  unfold callW at h
  split at h
  · rename_i f p e es
    split at h
    · rename_i h1 h2
      have hg := isGlob_iff h2
      have hs := isStar_false h1
      split at h
      · rename_i b hb
        have hf := bltOf_some hb
        subst hf
        cases b with
        | len => cases es with
          | nil => exact .lenOf hg hs ((S.ev nm hn σ e _ h).mono fun a ha => lenW_ok ha)
          | cons _ _ => exact h.elim
        | str => cases es with
          | nil => exact .strOf hg hs (S.ev nm hn σ e _ h)
          | cons _ _ => exact h.elim
        | tuple => cases es with
          | nil => exact .tupOf hg hs ((S.ev nm hn σ e _ h).mono fun a ha => tupW_ok ha)
          | cons _ _ => exact h.elim
        | range => cases es with
          | nil => exact .rngOf hg hs (S.ev nm hn σ e _ h)
          | cons _ _ => exact h.elim
        | isinstance =>
          cases es with
          | nil => exact h.elim
          | cons e2 es =>
            cases es with
            | nil =>
              cases e2 with
              | Name T tp =>
                simp only [bltW] at h
                split at h
                · rename_i ty h3 h4
                  refine .isi ty (tyOf_some h3) hg (isGlob_iff h4) hs ((S.ev nm hn σ e _ h).mono fun a ha => ?_)
                  split at ha
                  · rename_i b hb'; exact ⟨b, hb', ha⟩
                  · exact ha.elim
                · exact h.elim
              | _ => exact h.elim
            | cons _ _ => cases e2 <;> exact h.elim
      · split at h
        · rename_i h3
          exact .call hg (debug_of_def h3) hs (c.known f (List.elem_iff.mp h3)) ((evL_ok S hn h).mono fun ds hds => hds.2)
        · exact h.elim
    · exact h.elim
  · rename_i x _ _ m apos e
    split at h
    · rename_i h1 h2 h3
      have hm : m = Str.ofString "join" := by simpa using h2
      subst hm
      exact .join (isStar_false h1) h3 ((S.ev nm hn σ e _ h).mono fun a ha => joinW_ok ha)
    · exact h.elim
  · exact h.elim

theorem evS_ok (S : Snd c n W) (hn : noDebug nm = true) {e : Expr} {Q : D → Prop} (h : evS c n W nm σ e Q) : EvalOk c n nm σ e Q := by
  cases e with
  | Constant v k p =>
    cases v with
    | str x => exact .str h
    | int x => exact .int h
    | bool x => exact .bool h
    | none => exact .none h
    | _ => exact h.elim
  | Name x p =>
    simp only [evS, nameW] at h
    split at h
    · rename_i hx
      split at h
      · rename_i d hd; exact .name (.inl hx) hd (noDebug_ne hn hx) h
      · exact h.elim
    · rename_i hx
      split at h
      · rename_i d hd; exact .name (.inr hx) hd (noDebug_ne hn hx) h
      · exact h.elim
    · exact h.elim
  | BinOp l op r p =>
    have h' := (S.ev nm hn σ l _ h).mono fun a ha => S.ev nm hn σ r _ ha
    cases op with
    | Add => exact .add ((S.ev nm hn σ l _ h).mono fun a ha => (S.ev nm hn σ r _ ha).mono fun b hb => addW_ok hb)
    | Sub => exact .sub h'
    | Mod => exact .mod h'
    | FloorDiv => exact .fdiv h'
    | Mult => exact .mul h'
    | Pow => exact .pow h'
    | _ => exact fun X A env s Qm E hE hA hS hQ => wpAny_BinOp (h' X A env s _ E hE hA hS fun v d h1 tk1 S1 x1 r1 q1 => q1 X A env _ _ E hE hA S1 fun _ _ _ _ _ _ _ q => q.elim)
  | UnaryOp op x p =>
    cases op with
    | USub => cases x with
      | Constant v k p' => cases v with
        | int i => exact .neg h
        | _ => exact h.elim
      | _ => exact h.elim
    | _ => cases x <;> exact h.elim
  | IfExp t a b p =>
    refine .ifExp ((S.ts nm hn σ t _ h).mono fun x hx => ?_)
    cases x with
    | true => rw [if_pos rfl]; exact S.ev nm hn σ a _ hx
    | false => rw [if_neg (by decide)]; exact S.ev nm hn σ b _ hx
  | Tuple es k p =>
    simp only [evS] at h
    split at h
    · rename_i hl
      have := Nat.le_of_ble_eq_true hl
      exact .tuple ((evL_ok S hn h).mono fun ds hds => ⟨by rw [hds.1, sizeLine_eq]; omega, hds.2⟩)
    · exact h.elim
  | List es p =>
    simp only [evS] at h
    split at h
    · rename_i hl
      have := Nat.le_of_ble_eq_true hl
      exact .list ((evL_ok S hn h).mono fun ds hds => ⟨by rw [hds.1, sizeLine_eq]; omega, hds.2⟩)
    · exact h.elim
  | Subscript v s p =>
    simp only [evS] at h
    unfold subW at h
    split at h
    · exact .cut (S.ev nm hn σ v _ h)
    · split at h
      · exact h.elim
      · rename_i hs
        exact .item (isSlice_false hs) ((S.ev nm hn σ v _ h).mono fun a ha => (S.ev nm hn σ s _ ha).mono fun b hb => itemW_ok hb)
  | Call f args ks p => exact callW_ok S hn h
  | ListComp elt gens scope p =>
    obtain ⟨t, it, ifs, rfl, h1, h2, h3, h4, h5, h6⟩ := lcW_ok S hn h
    exact .comp h1 h2 h3 h4 h5 h6
  | _ => exact h.elim

theorem cmpW_ok {op : CmpOp} {a b : D} {Q : Bool → Prop} (h : cmpW op a b Q) : cmpIn op a b Q := by
  have gen : (match cmpD op a b with | some r => Q r | Option.none => False) → ∃ r, cmpD op a b = some r ∧ Q r := fun h => by
    split at h
    · rename_i r hr; exact ⟨r, hr, h⟩
    · exact h.elim
  cases op with
  | In =>
    cases a with
    | str x =>
      cases b with
      | tup ds =>
        simp only [cmpW] at h
        split at h
        · rename_i ys hys; exact ⟨ys, hys, h⟩
        · exact h.elim
      | _ => exact gen h
    | _ => exact gen h
  | _ => exact gen h

theorem orW_ok (S : Snd c n W) (hn : noDebug nm = true) {pos : Pos} : ∀ {xs : List Expr} {Q : Bool → Prop}, orW W nm σ xs Q → TestOk c n nm σ (.BoolOp .Or xs pos) Q
  | [], _, h => .or_nil h
  | x :: xs, Q, h => by
    refine .or_cons ((S.ts nm hn σ x _ h).mono fun b hb => ?_)
    cases b with
    | true => rw [if_pos rfl]; exact hb
    | false => rw [if_neg (by decide)]; exact orW_ok S hn hb

theorem tsS_ok (S : Snd c n W) (hn : noDebug nm = true) {e : Expr} {Q : Bool → Prop} (h : tsS W nm σ e Q) : TestOk c n nm σ e Q := by
  unfold tsS at h
  split at h
  · split at h
    · rename_i hm
      exact .cmp hm ((S.ev nm hn σ _ _ h).mono fun a ha => (S.ev nm hn σ _ _ ha).mono fun b hb => cmpW_ok hb)
    · exact h.elim
  · exact orW_ok S hn h
  · split at h
    · rename_i hp; exact .plain hp (S.ev nm hn σ _ _ h)
    · exact h.elim

theorem asgTW_ok (S : Snd c n W) (hn : noDebug nm = true) {ts : List Expr} {k : Nat} {p pos : Pos} {e : Expr} {Qn : Sig → Prop} {Qr : D → Prop} (h : asgTW W nm σ ts e Qn) : ExecOk c n nm σ (.Assign [.Tuple ts k p] e pos) Qn Qr := by
  unfold asgTW at h
  split at h
  · rename_i h1
    simp only [Bool.and_eq_true] at h1
    split at h
    · rename_i h2
      split at h
      · rename_i h3
        simp only [Bool.and_eq_true, List.all_eq_true, decide_eq_true_eq] at h3
        refine .assignN h1.1 h1.2 h2 (fun x hx => isLocal_iff (h3.1 x hx)) h3.2 ((S.ev nm hn σ e _ h).mono fun d hd => ?_)
        split at hd
        · rename_i ds
          split at hd
          · rename_i hl; exact ⟨ds, rfl, Nat.eq_of_beq_eq_true hl, hd⟩
          · exact hd.elim
        · exact hd.elim
      · exact h.elim
    · rename_i h2
      split at h
      · rename_i h3
        refine .assignT h1.1 h1.2 h2 (noStars_iff h3) ((S.ev nm hn σ e _ h).mono fun d hd => ?_)
        split at hd
        · rename_i ds
          split at hd
          · rename_i hl; exact ⟨ds, rfl, Nat.eq_of_beq_eq_true hl, asgL_ok (asgW_ok 4) (noStars_iff h3) hd⟩
          · exact hd.elim
        · exact hd.elim
      · exact h.elim
  · exact h.elim

theorem asg1W_ok (S : Snd c n W) (hn : noDebug nm = true) {t e : Expr} {pos : Pos} {Qn : Sig → Prop} {Qr : D → Prop} (h : asg1W W nm σ t e Qn) : ExecOk c n nm σ (.Assign [t] e pos) Qn Qr := by
  unfold asg1W at h
  split at h
  · split at h
    · rename_i hx
      have hx' := isLocal_iff hx
      split at h
      · obtain ⟨t, it, ifs, rfl, h1, h2, h3, h4, h5, h6⟩ := lcW_ok S hn h
        exact .assignC hx' h1 h2 h3 h4 h5 h6
      · split at h
        · rename_i hc; exact .assign hx' hc (S.ev nm hn σ _ _ h)
        · exact h.elim
    · exact h.elim
  · exact asgTW_ok S hn h
  · split at h
    · rename_i h1 h2 h3
      exact .storeSrc (isLocal_iff h1) (noDebug_ne hn (isLocal_iff h1)) h3 h2 (S.ev nm hn σ _ _ h)
    · exact h.elim
  · exact h.elim

theorem exS_ok (S : Snd c n W) (hn : noDebug nm = true) {st : Stmt} {Qn : Sig → Prop} {Qr : D → Prop} (h : exS W nm σ st Qn Qr) : ExecOk c n nm σ st Qn Qr := by
  unfold exS at h
  split at h
  · exact .ret (S.ev nm hn σ _ _ h)
  · refine .ite ((S.ts nm hn σ _ _ h).mono fun x hx => ?_)
    cases x with
    | true => rw [if_pos rfl]; exact exL_ok S hn hx
    | false => rw [if_neg (by decide)]; exact exL_ok S hn hx
  · exact asg1W_ok S hn h
  · split at h
    · rename_i h1 h2
      refine .forIn (isLocal_iff h1) h2 ((S.ev nm hn σ _ _ h).mono fun d hd => ?_)
      split at hd
      · rename_i ds hds; exact ⟨ds, hds, forW_ok S hn hd⟩
      · exact hd.elim
    · exact h.elim
  · exact h.elim
end

theorem Wn_ok (c : Cx) (n : Nat) : ∀ k, Snd c n (Wn c n k)
  | 0 => ⟨fun _ _ _ _ _ h => h.elim, fun _ _ _ _ _ h => h.elim, fun _ _ _ _ _ _ h => h.elim⟩
  | k + 1 => ⟨fun _ hn _ _ _ h => evS_ok (Wn_ok c n k) hn h, fun _ hn _ _ _ h => tsS_ok (Wn_ok c n k) hn h, fun _ hn _ _ _ _ h => exS_ok (Wn_ok c n k) hn h⟩
end Mine
namespace Mine
set_option maxRecDepth 100000

noncomputable def noRec : DefRec := ⟨Str.empty, ⟨[], [], Option.none, [], [], Option.none, []⟩, [], ⟨.function, [], false, false, []⟩, ⟨0, 0, 0, 0⟩⟩
noncomputable def defOf : Stmt → DefRec
  | .FunctionDef name args body _ _ _ scope _ _ pos => ⟨name, args, body, scope, pos⟩
  | _ => noRec
noncomputable def nthD : Nat → List Stmt → DefRec
  | _, [] => noRec
  | 0, s :: _ => defOf s
  | k + 1, _ :: r => nthD k r
noncomputable def isDef : Stmt → Bool
  | .FunctionDef .. => true
  | _ => false
/-- the program without what binds no def -/
noncomputable def V : Program := { PySem.Challenge.pw_xm0587_01 with main := { PySem.Challenge.pw_xm0587_01.main with body := PySem.Challenge.pw_xm0587_01.main.body.filter isDef } }
noncomputable def recAt (k : Nat) : DefRec := nthD k V.main.body

theorem recs_eq : recsOf V = V.main.body.map defOf := by kernel_rfl

theorem nthD_mem : ∀ {l : List Stmt} {k : Nat}, k < l.length → nthD k l ∈ l.map defOf
  | [], _, h => by cases h
  | s :: r, 0, _ => List.mem_cons_self
  | s :: r, k + 1, h => List.mem_cons_of_mem _ (nthD_mem (by simpa using h))
theorem body_len : V.main.body.length = 25 := by kernel_rfl
theorem rec_mem {p : Program} (hp : p = V) {k : Nat} (h : k < 25) : recAt k ∈ recsOf p := by
  rw [hp, recs_eq]; exact nthD_mem (body_len ▸ h)


theorem enter1 {c : Cx} (hp : c.p = V) {k n : Nat} {f x : Str} {a : D} {Q : D → Prop} (hk : k < 25) (hf : (recAt k).name = f)
    (hb : ∀ pm code doc v, bindArgs (Calls.docDef (recAt k).name (recAt k).params (recAt k).body (recAt k).scope pm code doc) ⟨[v], []⟩ = pure [(x, v)])
    (hcell : ((recAt k).scope.names.all fun x => decide (x.2 ≠ .cell)) = true) (hloc : (recAt k).scope.names.lookup x = some .local) (h1 : (recAt k).scope.kind = .function) (h2 : (recAt k).scope.isCoroutine = false) (h3 : (recAt k).scope.isGenerator = false)
    (hnd : noDebug (recAt k).scope.names = true)
    (h : exL (Wn c n 60) (recAt k).scope.names (recAt k).body (upd noSig x a) (fun _ => Q .none) Q) : CallOk c (n + 1) f [a] Q := by
  refine callOk_def (d := recAt k) (xs := [x]) (rec_mem hp hk) hf rfl (fun pm code doc vs hv => ?_) (fun y hy => ?_) (fun y hy => ?_) h1 h2 h3 (exL_ok (Wn_ok c n 60) hnd h)
  · obtain ⟨v, rfl⟩ := List.length_eq_one_iff.mp hv
    exact hb pm code doc v
  · have := List.all_eq_true.mp hcell y hy
    simpa using this
  · obtain rfl := List.mem_singleton.mp hy
    exact hloc
theorem enter2 {c : Cx} (hp : c.p = V) {k n : Nat} {f x y : Str} {a b : D} {Q : D → Prop} (hk : k < 25) (hf : (recAt k).name = f)
    (hb : ∀ pm code doc v w, bindArgs (Calls.docDef (recAt k).name (recAt k).params (recAt k).body (recAt k).scope pm code doc) ⟨[v, w], []⟩ = pure [(x, v), (y, w)])
    (hcell : ((recAt k).scope.names.all fun x => decide (x.2 ≠ .cell)) = true) (hloc : (recAt k).scope.names.lookup x = some .local) (hloc2 : (recAt k).scope.names.lookup y = some .local) (h1 : (recAt k).scope.kind = .function) (h2 : (recAt k).scope.isCoroutine = false) (h3 : (recAt k).scope.isGenerator = false)
    (hnd : noDebug (recAt k).scope.names = true)
    (h : exL (Wn c n 60) (recAt k).scope.names (recAt k).body (upd (upd noSig x a) y b) (fun _ => Q .none) Q) : CallOk c (n + 1) f [a, b] Q := by
  refine callOk_def (d := recAt k) (xs := [x, y]) (rec_mem hp hk) hf rfl (fun pm code doc vs hv => ?_) (fun y hy => ?_) (fun z hz => ?_) h1 h2 h3 (exL_ok (Wn_ok c n 60) hnd h)
  · match vs, hv with
    | [v, w], _ => exact hb pm code doc v w
  · have := List.all_eq_true.mp hcell y hy
    simpa using this
  · rcases List.mem_cons.mp hz with rfl | hz
    · exact hloc
    · obtain rfl := List.mem_singleton.mp hz
      exact hloc2
theorem enterC {c : Cx} (hp : c.p = V) {k n : Nat} {f x : Str} {a : D} {Q : D → Prop} (hk : k < 25) (hf : (recAt k).name = f)
    (hb : ∀ pm code doc v, bindArgs (Calls.docDef (recAt k).name (recAt k).params (recAt k).body (recAt k).scope pm code doc) ⟨[v], []⟩ = pure [(x, v)])
    (hx : (recAt k).scope.names.lookup x = some .cell) (hone : ∀ m, ((cellsFrom m (recAt k).scope.names []).lookup x).isSome = true) (h1 : (recAt k).scope.kind = .function) (h2 : (recAt k).scope.isCoroutine = false) (h3 : (recAt k).scope.isGenerator = false)
    (hnd : noDebug (recAt k).scope.names = true)
    (h : exL (Wn c n 60) (recAt k).scope.names (recAt k).body (upd noSig x a) (fun _ => Q .none) Q) : CallOk c (n + 1) f [a] Q :=
  callOk_cell (d := recAt k) (rec_mem hp hk) hf hb hx hone h1 h2 h3 (exL_ok (Wn_ok c n 60) hnd h)
theorem fn_parts_of {c : Cx} (hp : c.p = V) {n : Nat} {a : D} {Q : D → Prop} (h : exL (Wn c n 60) (recAt 0).scope.names (recAt 0).body (upd noSig "told" a) (fun _ => Q .none) Q) : CallOk c (n + 1) "parts_of" [a] Q :=
  enter1 hp (by decide) (by rfl) (fun _ _ _ _ => rfl) (by decide) (by decide) rfl rfl rfl (by decide) h
theorem fn_region_text {c : Cx} (hp : c.p = V) {n : Nat} {a : D} {Q : D → Prop} (h : exL (Wn c n 60) (recAt 1).scope.names (recAt 1).body (upd noSig "region" a) (fun _ => Q .none) Q) : CallOk c (n + 1) "region_text" [a] Q :=
  enter1 hp (by decide) (by rfl) (fun _ _ _ _ => rfl) (by decide) (by decide) rfl rfl rfl (by decide) h
theorem fn_type_text {c : Cx} (hp : c.p = V) {n : Nat} {a : D} {Q : D → Prop} (h : exL (Wn c n 60) (recAt 2).scope.names (recAt 2).body (upd noSig "told" a) (fun _ => Q .none) Q) : CallOk c (n + 1) "type_text" [a] Q :=
  enter1 hp (by decide) (by rfl) (fun _ _ _ _ => rfl) (by decide) (by decide) rfl rfl rfl (by decide) h
theorem fn_place_text {c : Cx} (hp : c.p = V) {n : Nat} {a : D} {Q : D → Prop} (h : exL (Wn c n 60) (recAt 3).scope.names (recAt 3).body (upd noSig "place" a) (fun _ => Q .none) Q) : CallOk c (n + 1) "place_text" [a] Q :=
  enter1 hp (by decide) (by rfl) (fun _ _ _ _ => rfl) (by decide) (by decide) rfl rfl rfl (by decide) h
theorem fn_value_text {c : Cx} (hp : c.p = V) {n : Nat} {a : D} {Q : D → Prop} (h : exL (Wn c n 60) (recAt 4).scope.names (recAt 4).body (upd noSig "value" a) (fun _ => Q .none) Q) : CallOk c (n + 1) "value_text" [a] Q :=
  enter1 hp (by decide) (by rfl) (fun _ _ _ _ => rfl) (by decide) (by decide) rfl rfl rfl (by decide) h
theorem fn_operand_text {c : Cx} (hp : c.p = V) {n : Nat} {a : D} {Q : D → Prop} (h : exL (Wn c n 60) (recAt 5).scope.names (recAt 5).body (upd noSig "operand" a) (fun _ => Q .none) Q) : CallOk c (n + 1) "operand_text" [a] Q :=
  enter1 hp (by decide) (by rfl) (fun _ _ _ _ => rfl) (by decide) (by decide) rfl rfl rfl (by decide) h
theorem fn_operands_text {c : Cx} (hp : c.p = V) {n : Nat} {a : D} {Q : D → Prop} (h : exL (Wn c n 60) (recAt 6).scope.names (recAt 6).body (upd noSig "operands" a) (fun _ => Q .none) Q) : CallOk c (n + 1) "operands_text" [a] Q :=
  enter1 hp (by decide) (by rfl) (fun _ _ _ _ => rfl) (by decide) (by decide) rfl rfl rfl (by decide) h
theorem fn_function_text {c : Cx} (hp : c.p = V) {n : Nat} {a : D} {Q : D → Prop} (h : exL (Wn c n 60) (recAt 7).scope.names (recAt 7).body (upd noSig "told" a) (fun _ => Q .none) Q) : CallOk c (n + 1) "function_text" [a] Q :=
  enter1 hp (by decide) (by rfl) (fun _ _ _ _ => rfl) (by decide) (by decide) rfl rfl rfl (by decide) h
theorem fn_rvalue_text {c : Cx} (hp : c.p = V) {n : Nat} {a : D} {Q : D → Prop} (h : exL (Wn c n 60) (recAt 8).scope.names (recAt 8).body (upd noSig "rvalue" a) (fun _ => Q .none) Q) : CallOk c (n + 1) "rvalue_text" [a] Q :=
  enter1 hp (by decide) (by rfl) (fun _ _ _ _ => rfl) (by decide) (by decide) rfl rfl rfl (by decide) h
theorem fn_statement_text {c : Cx} (hp : c.p = V) {n : Nat} {a : D} {Q : D → Prop} (h : exL (Wn c n 60) (recAt 9).scope.names (recAt 9).body (upd noSig "statement" a) (fun _ => Q .none) Q) : CallOk c (n + 1) "statement_text" [a] Q :=
  enter1 hp (by decide) (by rfl) (fun _ _ _ _ => rfl) (by decide) (by decide) rfl rfl rfl (by decide) h
theorem fn_block_name {c : Cx} (hp : c.p = V) {n : Nat} {a : D} {Q : D → Prop} (h : exL (Wn c n 60) (recAt 10).scope.names (recAt 10).body (upd noSig "block" a) (fun _ => Q .none) Q) : CallOk c (n + 1) "block_name" [a] Q :=
  enter1 hp (by decide) (by rfl) (fun _ _ _ _ => rfl) (by decide) (by decide) rfl rfl rfl (by decide) h
theorem fn_terminator_text {c : Cx} (hp : c.p = V) {n : Nat} {a : D} {Q : D → Prop} (h : exL (Wn c n 60) (recAt 11).scope.names (recAt 11).body (upd noSig "terminator" a) (fun _ => Q .none) Q) : CallOk c (n + 1) "terminator_text" [a] Q :=
  enter1 hp (by decide) (by rfl) (fun _ _ _ _ => rfl) (by decide) (by decide) rfl rfl rfl (by decide) h
theorem fn_law_pool {c : Cx} (hp : c.p = V) {n : Nat} {a : D} {Q : D → Prop} (h : exL (Wn c n 60) (recAt 12).scope.names (recAt 12).body (upd noSig "script" a) (fun _ => Q .none) Q) : CallOk c (n + 1) "_law_pool" [a] Q :=
  enter1 hp (by decide) (by rfl) (fun _ _ _ _ => rfl) (by decide) (by decide) rfl rfl rfl (by decide) h
theorem fn_law_take {c : Cx} (hp : c.p = V) {n : Nat} {a b : D} {Q : D → Prop} (h : exL (Wn c n 60) (recAt 13).scope.names (recAt 13).body (upd (upd noSig "source" a) "top" b) (fun _ => Q .none) Q) : CallOk c (n + 1) "_law_take" [a, b] Q :=
  enter2 hp (by decide) (by rfl) (fun _ _ _ _ _ => rfl) (by decide) (by decide) (by decide) rfl rfl rfl (by decide) h
theorem fn_law_one {c : Cx} (hp : c.p = V) {n : Nat} {a b : D} {Q : D → Prop} (h : exL (Wn c n 60) (recAt 14).scope.names (recAt 14).body (upd (upd noSig "source" a) "things" b) (fun _ => Q .none) Q) : CallOk c (n + 1) "_law_one" [a, b] Q :=
  enter2 hp (by decide) (by rfl) (fun _ _ _ _ _ => rfl) (by decide) (by decide) (by decide) rfl rfl rfl (by decide) h
theorem fn_law_type {c : Cx} (hp : c.p = V) {n : Nat} {a b : D} {Q : D → Prop} (h : exL (Wn c n 60) (recAt 15).scope.names (recAt 15).body (upd (upd noSig "source" a) "floors" b) (fun _ => Q .none) Q) : CallOk c (n + 1) "_law_type" [a, b] Q :=
  enter2 hp (by decide) (by rfl) (fun _ _ _ _ _ => rfl) (by decide) (by decide) (by decide) rfl rfl rfl (by decide) h
theorem fn_law_place {c : Cx} (hp : c.p = V) {n : Nat} {a : D} {Q : D → Prop} (h : exL (Wn c n 60) (recAt 16).scope.names (recAt 16).body (upd noSig "source" a) (fun _ => Q .none) Q) : CallOk c (n + 1) "_law_place" [a] Q :=
  enter1 hp (by decide) (by rfl) (fun _ _ _ _ => rfl) (by decide) (by decide) rfl rfl rfl (by decide) h
theorem fn_law_value {c : Cx} (hp : c.p = V) {n : Nat} {a : D} {Q : D → Prop} (h : exL (Wn c n 60) (recAt 17).scope.names (recAt 17).body (upd noSig "source" a) (fun _ => Q .none) Q) : CallOk c (n + 1) "_law_value" [a] Q :=
  enter1 hp (by decide) (by rfl) (fun _ _ _ _ => rfl) (by decide) (by decide) rfl rfl rfl (by decide) h
theorem fn_law_operand {c : Cx} (hp : c.p = V) {n : Nat} {a : D} {Q : D → Prop} (h : exL (Wn c n 60) (recAt 18).scope.names (recAt 18).body (upd noSig "source" a) (fun _ => Q .none) Q) : CallOk c (n + 1) "_law_operand" [a] Q :=
  enter1 hp (by decide) (by rfl) (fun _ _ _ _ => rfl) (by decide) (by decide) rfl rfl rfl (by decide) h
theorem fn_law_operands {c : Cx} (hp : c.p = V) {n : Nat} {a : D} {Q : D → Prop} (h : exL (Wn c n 60) (recAt 19).scope.names (recAt 19).body (upd noSig "source" a) (fun _ => Q .none) Q) : CallOk c (n + 1) "_law_operands" [a] Q :=
  enterC hp (by decide) (by rfl) (fun _ _ _ _ => rfl) (by decide) (fun m => by rfl) rfl rfl rfl (by decide) h
theorem fn_law_callee {c : Cx} (hp : c.p = V) {n : Nat} {a : D} {Q : D → Prop} (h : exL (Wn c n 60) (recAt 20).scope.names (recAt 20).body (upd noSig "source" a) (fun _ => Q .none) Q) : CallOk c (n + 1) "_law_callee" [a] Q :=
  enterC hp (by decide) (by rfl) (fun _ _ _ _ => rfl) (by decide) (fun m => by rfl) rfl rfl rfl (by decide) h
theorem fn_law_rvalue {c : Cx} (hp : c.p = V) {n : Nat} {a : D} {Q : D → Prop} (h : exL (Wn c n 60) (recAt 21).scope.names (recAt 21).body (upd noSig "source" a) (fun _ => Q .none) Q) : CallOk c (n + 1) "_law_rvalue" [a] Q :=
  enter1 hp (by decide) (by rfl) (fun _ _ _ _ => rfl) (by decide) (by decide) rfl rfl rfl (by decide) h
theorem fn_law_statement {c : Cx} (hp : c.p = V) {n : Nat} {a : D} {Q : D → Prop} (h : exL (Wn c n 60) (recAt 22).scope.names (recAt 22).body (upd noSig "source" a) (fun _ => Q .none) Q) : CallOk c (n + 1) "_law_statement" [a] Q :=
  enter1 hp (by decide) (by rfl) (fun _ _ _ _ => rfl) (by decide) (by decide) rfl rfl rfl (by decide) h
theorem fn_law_terminator {c : Cx} (hp : c.p = V) {n : Nat} {a : D} {Q : D → Prop} (h : exL (Wn c n 60) (recAt 23).scope.names (recAt 23).body (upd noSig "source" a) (fun _ => Q .none) Q) : CallOk c (n + 1) "_law_terminator" [a] Q :=
  enterC hp (by decide) (by rfl) (fun _ _ _ _ => rfl) (by decide) (fun m => by rfl) rfl rfl rfl (by decide) h
end Mine
namespace Mine
set_option maxRecDepth 100000

/-! texts -/
theorem lit_append (a b : String) : Str.ofString a ++ Str.ofString b = Str.ofString (a ++ b) := by
  rw [Str.ofString_eq_toList, Str.ofString_eq_toList, Str.ofString_eq_toList]
  refine Str.ext' ?_
  rw [Str.cps_append]
  simp
theorem lit_append' (a b : String) (x : Str) : Str.ofString a ++ (Str.ofString b ++ x) = Str.ofString (a ++ b) ++ x := by
  rw [← Str.append_assoc, lit_append]
theorem lit_nil (x : Str) : Str.ofString "" ++ x = x := Str.ext' (by rw [Str.cps_append]; rw [Str.ofString_eq_toList]; simp)
theorem nil_lit (x : Str) : x ++ Str.ofString "" = x := Str.ext' (by rw [Str.cps_append]; rw [Str.ofString_eq_toList]; simp)
theorem join0 (x : Str) : Str.join x [] = Str.ofString "" := rfl
theorem join1 (x a : Str) : Str.join x [a] = a := rfl
theorem join2 (x a b : Str) (r : List Str) : Str.join x (a :: b :: r) = a ++ (x ++ Str.join x (b :: r)) := by
  rw [← Str.append_assoc]; rfl
theorem ts12 : Str.ofString (toString (12 : Int)) = Str.ofString "12" := by decide
theorem ts2 : Str.ofString (toString (2 : Int)) = Str.ofString "2" := by decide
theorem ts7 : Str.ofString (toString (7 : Int)) = Str.ofString "7" := by decide
theorem ts0 : Str.ofString (toString (0 : Int)) = Str.ofString "0" := by decide
theorem ts5 : Str.ofString (toString (5 : Int)) = Str.ofString "5" := by decide
theorem ts9 : Str.ofString (toString (9 : Int)) = Str.ofString "9" := by decide
theorem ts10 : Str.ofString (toString (10 : Int)) = Str.ofString "10" := by decide
theorem ts13 : Str.ofString (toString (13 : Int)) = Str.ofString "13" := by decide
theorem ts17 : Str.ofString (toString (17 : Int)) = Str.ofString "17" := by decide
theorem ll0 : (Str.ofString "").length = 0 := by decide
theorem ll1 : (Str.ofString " ").length = 1 := by decide
theorem ll2 : (Str.ofString " '").length = 2 := by decide
theorem ll3 : (Str.ofString " '0").length = 3 := by decide
theorem ll4 : (Str.ofString " '17").length = 4 := by decide
theorem ll5 : (Str.ofString " (").length = 2 := by decide
theorem ll6 : (Str.ofString " = ").length = 3 := by decide
theorem ll7 : (Str.ofString " = call ").length = 8 := by decide
theorem ll8 : (Str.ofString " _").length = 2 := by decide
theorem ll9 : (Str.ofString " as ").length = 4 := by decide
theorem ll10 : (Str.ofString " as t::Tr>::go").length = 14 := by decide
theorem ll11 : (Str.ofString " is ").length = 4 := by decide
theorem ll12 : (Str.ofString " is true, bad, then ").length = 20 := by decide
theorem ll13 : (Str.ofString " then ").length = 6 := by decide
theorem ll14 : (Str.ofString "!").length = 1 := by decide
theorem ll15 : (Str.ofString "! ").length = 2 := by decide
theorem ll16 : (Str.ofString "&").length = 1 := by decide
theorem ll17 : (Str.ofString "&'3 ").length = 4 := by decide
theorem ll18 : (Str.ofString "&'static mut ").length = 13 := by decide
theorem ll19 : (Str.ofString "&mut ").length = 5 := by decide
theorem ll20 : (Str.ofString "'").length = 1 := by decide
theorem ll21 : (Str.ofString "'3").length = 2 := by decide
theorem ll22 : (Str.ofString "'4").length = 2 := by decide
theorem ll23 : (Str.ofString "'a").length = 2 := by decide
theorem ll24 : (Str.ofString "'b").length = 2 := by decide
theorem ll25 : (Str.ofString "'static").length = 7 := by decide
theorem ll26 : (Str.ofString "(").length = 1 := by decide
theorem ll27 : (Str.ofString "()").length = 2 := by decide
theorem ll28 : (Str.ofString "(*").length = 2 := by decide
theorem ll29 : (Str.ofString "(1, (false))").length = 12 := by decide
theorem ll30 : (Str.ofString "(7, ").length = 4 := by decide
theorem ll31 : (Str.ofString ")").length = 1 := by decide
theorem ll32 : (Str.ofString ") else ").length = 7 := by decide
theorem ll33 : (Str.ofString ") then ").length = 7 := by decide
theorem ll34 : (Str.ofString "+").length = 1 := by decide
theorem ll35 : (Str.ofString ", ").length = 2 := by decide
theorem ll36 : (Str.ofString ", !>").length = 4 := by decide
theorem ll37 : (Str.ofString ", bool)").length = 7 := by decide
theorem ll38 : (Str.ofString ", then ").length = 7 := by decide
theorem ll39 : (Str.ofString ", true)").length = 7 := by decide
theorem ll40 : (Str.ofString ",)").length = 2 := by decide
theorem ll41 : (Str.ofString "-128").length = 4 := by decide
theorem ll42 : (Str.ofString ".").length = 1 := by decide
theorem ll43 : (Str.ofString "0").length = 1 := by decide
theorem ll44 : (Str.ofString "1").length = 1 := by decide
theorem ll45 : (Str.ofString "10").length = 2 := by decide
theorem ll46 : (Str.ofString "12").length = 2 := by decide
theorem ll47 : (Str.ofString "13").length = 2 := by decide
theorem ll48 : (Str.ofString "17").length = 2 := by decide
theorem ll49 : (Str.ofString "2").length = 1 := by decide
theorem ll50 : (Str.ofString "5").length = 1 := by decide
theorem ll51 : (Str.ofString "7").length = 1 := by decide
theorem ll52 : (Str.ofString "9").length = 1 := by decide
theorem ll53 : (Str.ofString ": ").length = 2 := by decide
theorem ll54 : (Str.ofString ": b9").length = 4 := by decide
theorem ll55 : (Str.ofString "::").length = 2 := by decide
theorem ll56 : (Str.ofString "::2 (").length = 5 := by decide
theorem ll57 : (Str.ofString "; ").length = 2 := by decide
theorem ll58 : (Str.ofString "; 12]").length = 5 := by decide
theorem ll59 : (Str.ofString "<").length = 1 := by decide
theorem ll60 : (Str.ofString "<<").length = 2 := by decide
theorem ll61 : (Str.ofString "<=").length = 2 := by decide
theorem ll62 : (Str.ofString ">").length = 1 := by decide
theorem ll63 : (Str.ofString ">::").length = 3 := by decide
theorem ll64 : (Str.ofString "Box<").length = 4 := by decide
theorem ll65 : (Str.ofString "Q").length = 1 := by decide
theorem ll66 : (Str.ofString "Q<'a, '4>").length = 9 := by decide
theorem ll67 : (Str.ofString "R").length = 1 := by decide
theorem ll68 : (Str.ofString "R<'b, ").length = 6 := by decide
theorem ll69 : (Str.ofString "T").length = 1 := by decide
theorem ll70 : (Str.ofString "[").length = 1 := by decide
theorem ll71 : (Str.ofString "[_").length = 2 := by decide
theorem ll72 : (Str.ofString "]").length = 1 := by decide
theorem ll73 : (Str.ofString "_").length = 1 := by decide
theorem ll74 : (Str.ofString "adt").length = 3 := by decide
theorem ll75 : (Str.ofString "array").length = 5 := by decide
theorem ll76 : (Str.ofString "assert").length = 6 := by decide
theorem ll77 : (Str.ofString "assert ").length = 7 := by decide
theorem ll78 : (Str.ofString "assign").length = 6 := by decide
theorem ll79 : (Str.ofString "b").length = 1 := by decide
theorem ll80 : (Str.ofString "b0").length = 2 := by decide
theorem ll81 : (Str.ofString "b13").length = 3 := by decide
theorem ll82 : (Str.ofString "b2").length = 2 := by decide
theorem ll83 : (Str.ofString "b9").length = 2 := by decide
theorem ll84 : (Str.ofString "bad").length = 3 := by decide
theorem ll85 : (Str.ofString "binary").length = 6 := by decide
theorem ll86 : (Str.ofString "bool").length = 4 := by decide
theorem ll87 : (Str.ofString "box").length = 3 := by decide
theorem ll88 : (Str.ofString "box ").length = 4 := by decide
theorem ll89 : (Str.ofString "call").length = 4 := by decide
theorem ll90 : (Str.ofString "cast").length = 4 := by decide
theorem ll91 : (Str.ofString "checked").length = 7 := by decide
theorem ll92 : (Str.ofString "const").length = 5 := by decide
theorem ll93 : (Str.ofString "copy").length = 4 := by decide
theorem ll94 : (Str.ofString "copy ").length = 5 := by decide
theorem ll95 : (Str.ofString "dead").length = 4 := by decide
theorem ll96 : (Str.ofString "dead _10").length = 8 := by decide
theorem ll97 : (Str.ofString "deref").length = 5 := by decide
theorem ll98 : (Str.ofString "discriminant").length = 12 := by decide
theorem ll99 : (Str.ofString "discriminant ").length = 13 := by decide
theorem ll100 : (Str.ofString "downcast").length = 8 := by decide
theorem ll101 : (Str.ofString "drop").length = 4 := by decide
theorem ll102 : (Str.ofString "drop ").length = 5 := by decide
theorem ll103 : (Str.ofString "false").length = 5 := by decide
theorem ll104 : (Str.ofString "field").length = 5 := by decide
theorem ll105 : (Str.ofString "fn").length = 2 := by decide
theorem ll106 : (Str.ofString "go").length = 2 := by decide
theorem ll107 : (Str.ofString "goto").length = 4 := by decide
theorem ll108 : (Str.ofString "goto ").length = 5 := by decide
theorem ll109 : (Str.ofString "i32").length = 3 := by decide
theorem ll110 : (Str.ofString "index").length = 5 := by decide
theorem ll111 : (Str.ofString "int").length = 3 := by decide
theorem ll112 : (Str.ofString "intvar").length = 6 := by decide
theorem ll113 : (Str.ofString "live").length = 4 := by decide
theorem ll114 : (Str.ofString "live _5").length = 7 := by decide
theorem ll115 : (Str.ofString "m::P").length = 4 := by decide
theorem ll116 : (Str.ofString "m::f").length = 4 := by decide
theorem ll117 : (Str.ofString "method").length = 6 := by decide
theorem ll118 : (Str.ofString "move").length = 4 := by decide
theorem ll119 : (Str.ofString "move ").length = 5 := by decide
theorem ll120 : (Str.ofString "mut").length = 3 := by decide
theorem ll121 : (Str.ofString "mut ").length = 4 := by decide
theorem ll122 : (Str.ofString "never").length = 5 := by decide
theorem ll123 : (Str.ofString "no way").length = 6 := by decide
theorem ll124 : (Str.ofString "none").length = 4 := by decide
theorem ll125 : (Str.ofString "nop").length = 3 := by decide
theorem ll126 : (Str.ofString "panic").length = 5 := by decide
theorem ll127 : (Str.ofString "panic no way").length = 12 := by decide
theorem ll128 : (Str.ofString "param").length = 5 := by decide
theorem ll129 : (Str.ofString "print").length = 5 := by decide
theorem ll130 : (Str.ofString "print ").length = 6 := by decide
theorem ll131 : (Str.ofString "ref").length = 3 := by decide
theorem ll132 : (Str.ofString "return").length = 6 := by decide
theorem ll133 : (Str.ofString "shared").length = 6 := by decide
theorem ll134 : (Str.ofString "switch").length = 6 := by decide
theorem ll135 : (Str.ofString "switch ").length = 7 := by decide
theorem ll136 : (Str.ofString "t::Tr").length = 5 := by decide
theorem ll137 : (Str.ofString "true").length = 4 := by decide
theorem ll138 : (Str.ofString "tuple").length = 5 := by decide
theorem ll139 : (Str.ofString "two-phase").length = 9 := by decide
theorem ll140 : (Str.ofString "unary").length = 5 := by decide
theorem ll141 : (Str.ofString "unreachable").length = 11 := by decide
theorem ll142 : (Str.ofString "use").length = 3 := by decide
theorem ll143 : (Str.ofString "var").length = 3 := by decide

-- sizes
local macro_rules | `(tactic| leaf_len) => `(tactic| (first | decide | ((try simp only [Str.length_append, List.map_cons, List.map_nil, List.sum_cons, List.sum_nil, List.length_cons, List.length_nil, join0, join1, join2, sizeLine_eq, ts12, ts2, ts7, ts0, ts5, ts9, ts10, ts13, ts17, ll0, ll1, ll2, ll3, ll4, ll5, ll6, ll7, ll8, ll9, ll10, ll11, ll12, ll13, ll14, ll15, ll16, ll17, ll18, ll19, ll20, ll21, ll22, ll23, ll24, ll25, ll26, ll27, ll28, ll29, ll30, ll31, ll32, ll33, ll34, ll35, ll36, ll37, ll38, ll39, ll40, ll41, ll42, ll43, ll44, ll45, ll46, ll47, ll48, ll49, ll50, ll51, ll52, ll53, ll54, ll55, ll56, ll57, ll58, ll59, ll60, ll61, ll62, ll63, ll64, ll65, ll66, ll67, ll68, ll69, ll70, ll71, ll72, ll73, ll74, ll75, ll76, ll77, ll78, ll79, ll80, ll81, ll82, ll83, ll84, ll85, ll86, ll87, ll88, ll89, ll90, ll91, ll92, ll93, ll94, ll95, ll96, ll97, ll98, ll99, ll100, ll101, ll102, ll103, ll104, ll105, ll106, ll107, ll108, ll109, ll110, ll111, ll112, ll113, ll114, ll115, ll116, ll117, ll118, ll119, ll120, ll121, ll122, ll123, ll124, ll125, ll126, ll127, ll128, ll129, ll130, ll131, ll132, ll133, ll134, ll135, ll136, ll137, ll138, ll139, ll140, ll141, ll142, ll143] at *); omega)))
-- the first look into a def
local macro_rules | `(tactic| regloopunroll_open) => `(tactic| ((conv => arg 2; whnf); (conv => arg 3; whnf); conv => whnf))
-- two texts
local macro_rules | `(tactic| top_caught0) => `(tactic| (refine congrArg D.str ?_; (try simp only [Str.append_assoc, join0, join1, join2]); (try simp only [Str.append_assoc, ts12, ts2, ts7, ts0, ts5, ts9, ts10, ts13, ts17, lit_append, lit_append', lit_nil, nil_lit, String.reduceAppend]); (try rfl)))

section
variable {c : Cx} (hp : c.p = V)
include hp

theorem parts_ref {a b t : D} : CallOk c 1 "parts_of" [.tup [.str "ref", a, b, t]] (fun r => r = .tup [t]) := by
  refine fn_parts_of hp ?_
  regloopunroll_open
theorem parts_box {t : D} : CallOk c 1 "parts_of" [.tup [.str "box", t]] (fun r => r = .tup [t]) := by
  refine fn_parts_of hp ?_
  regloopunroll_open
theorem parts_array {a t : D} : CallOk c 1 "parts_of" [.tup [.str "array", t, a]] (fun r => r = .tup [t]) := by
  refine fn_parts_of hp ?_
  regloopunroll_open
theorem parts_tuple {t : D} : CallOk c 1 "parts_of" [.tup [.str "tuple", t]] (fun r => r = t) := by
  refine fn_parts_of hp ?_
  regloopunroll_open
theorem parts_adt {a b t : D} : CallOk c 1 "parts_of" [.tup [.str "adt", a, b, t]] (fun r => r = t) := by
  refine fn_parts_of hp ?_
  regloopunroll_open
theorem region_none : CallOk c 1 "region_text" [.none] (fun r => r = .str "") := by
  refine fn_region_text hp ?_
  regloopunroll_open
theorem region_str {x : Str} : CallOk c 1 "region_text" [.str x] (fun r => r = .str x) := by
  refine fn_region_text hp ?_
  regloopunroll_open
theorem region_int3 : CallOk c 1 "region_text" [.int 3] (fun r => r = .str "'3") := by
  refine fn_region_text hp ?_
  regloopunroll_open
  refine ⟨by decide, ?_⟩
  conv => whnf
  refine ⟨by decide, ?_⟩
  conv => whnf
  all_goals top_caught0
theorem region_int4 : CallOk c 1 "region_text" [.int 4] (fun r => r = .str "'4") := by
  refine fn_region_text hp ?_
  regloopunroll_open
  refine ⟨by decide, ?_⟩
  conv => whnf
  refine ⟨by decide, ?_⟩
  conv => whnf
  all_goals top_caught0
omit hp in
theorem step_call {n n' : Nat} {f : Str} {ds : List D} {q : D} {Q : D → Prop} (h : CallOk c n f ds (fun r => r = q)) (hn : n ≤ n') (hq : Q q) : CallOk c n' f ds Q := (h.le hn).mono fun _ e => e ▸ hq

-- the calls whose values stand
local macro_rules | `(tactic| boot_fact) => `(tactic| first
  | assumption
  | exact parts_ref (by assumption) | exact parts_box (by assumption) | exact parts_array (by assumption) | exact parts_tuple (by assumption) | exact parts_adt (by assumption)
  | exact region_none (by assumption) | exact region_str (by assumption) | exact region_int3 (by assumption) | exact region_int4 (by assumption))
-- one step
local macro_rules | `(tactic| mod_arm) => `(tactic| first
  | ((with_reducible refine And.intro ?hl ?hr); (case hl => leaf_len); (conv => whnf))
  | ((with_reducible refine' step_call ?hc ?hn ?hq); (case hc => boot_fact); (case hn => decide); (conv => whnf)))
-- all
local macro_rules | `(tactic| modx_arm) => `(tactic| (repeat mod_arm))

theorem ty_int {x : Str} : CallOk c 1 "type_text" [.tup [.str "int", .str x]] (fun r => r = .str x) := by
  refine fn_type_text hp ?_
  regloopunroll_open
theorem ty_param {x : Str} : CallOk c 1 "type_text" [.tup [.str "param", .str x]] (fun r => r = .str x) := by
  refine fn_type_text hp ?_
  regloopunroll_open
theorem ty_bool : CallOk c 1 "type_text" [.tup [.str "bool"]] (fun r => r = .str "bool") := by
  refine fn_type_text hp ?_
  regloopunroll_open
theorem ty_never : CallOk c 1 "type_text" [.tup [.str "never"]] (fun r => r = .str "!") := by
  refine fn_type_text hp ?_
  regloopunroll_open
theorem ty_unit : CallOk c 2 "type_text" [.tup [.str "tuple", .tup []]] (fun r => r = .str "()") := by
  refine fn_type_text hp ?_
  regloopunroll_open
  modx_arm
  all_goals top_caught0
theorem ty_P : CallOk c 2 "type_text" [.tup [.str "adt", .str "m::P", .tup [.none], .tup []]] (fun r => r = .str "m::P") := by
  refine fn_type_text hp ?_
  regloopunroll_open
  modx_arm
  all_goals top_caught0
theorem ty_Q : CallOk c 2 "type_text" [.tup [.str "adt", .str "Q", .tup [.str "'a", .int 4], .tup []]] (fun r => r = .str "Q<'a, '4>") := by
  refine fn_type_text hp ?_
  regloopunroll_open
  modx_arm
  all_goals top_caught0

section
variable {t : D} {x : Str} (h : CallOk c 2 "type_text" [t] (fun r => r = .str x)) (hl : x.length ≤ 12)
include h hl
theorem ty_ref1 : CallOk c 3 "type_text" [.tup [.str "ref", .none, .bool true, t]] (fun r => r = .str (Str.ofString "&mut " ++ x)) := by
  refine fn_type_text hp ?_
  regloopunroll_open
  modx_arm
  all_goals top_caught0
theorem ty_ref2 : CallOk c 3 "type_text" [.tup [.str "ref", .int 3, .bool false, t]] (fun r => r = .str (Str.ofString "&'3 " ++ x)) := by
  refine fn_type_text hp ?_
  regloopunroll_open
  modx_arm
  all_goals top_caught0
theorem ty_ref3 : CallOk c 3 "type_text" [.tup [.str "ref", .str "'static", .bool true, t]] (fun r => r = .str (Str.ofString "&'static mut " ++ x)) := by
  refine fn_type_text hp ?_
  regloopunroll_open
  modx_arm
  all_goals top_caught0
theorem ty_box : CallOk c 3 "type_text" [.tup [.str "box", t]] (fun r => r = .str (Str.ofString "Box<" ++ x ++ Str.ofString ">")) := by
  refine fn_type_text hp ?_
  regloopunroll_open
  modx_arm
  all_goals top_caught0
theorem ty_array : CallOk c 3 "type_text" [.tup [.str "array", t, .int 12]] (fun r => r = .str (Str.ofString "[" ++ x ++ Str.ofString "; 12]")) := by
  refine fn_type_text hp ?_
  regloopunroll_open
  modx_arm
  all_goals top_caught0
theorem ty_tup1 : CallOk c 3 "type_text" [.tup [.str "tuple", .tup [t]]] (fun r => r = .str (Str.ofString "(" ++ x ++ Str.ofString ",)")) := by
  refine fn_type_text hp ?_
  regloopunroll_open
  modx_arm
  all_goals top_caught0
theorem ty_tup2 : CallOk c 3 "type_text" [.tup [.str "tuple", .tup [t, .tup [.str "bool"]]]] (fun r => r = .str (Str.ofString "(" ++ x ++ Str.ofString ", bool)")) := by
  have hb := ty_bool hp
  refine fn_type_text hp ?_
  regloopunroll_open
  modx_arm
  all_goals top_caught0
theorem ty_R : CallOk c 3 "type_text" [.tup [.str "adt", .str "R", .tup [.str "'b", .none], .tup [t, .tup [.str "never"]]]] (fun r => r = .str (Str.ofString "R<'b, " ++ x ++ Str.ofString ", !>")) := by
  have hb := ty_never hp
  refine fn_type_text hp ?_
  regloopunroll_open
  modx_arm
  all_goals top_caught0
end
end
local macro_rules | `(tactic| boot_fact) => `(tactic| first
  | assumption
)
local macro_rules | `(tactic| mod_arm) => `(tactic| first
  | ((with_reducible refine And.intro ?hl ?hr); (case hl => leaf_len); (conv => whnf))
  | ((with_reducible refine' step_call ?hc ?hn ?hq); (case hc => boot_fact); (case hn => decide); (conv => whnf)))
local macro_rules | `(tactic| modx_arm) => `(tactic| (repeat mod_arm))
section
variable {c : Cx} (hp : c.p = V)
include hp

theorem take_ok {t : Int} (h0 : 0 < t) (h1 : t < 1000) : CallOk c 1 "_law_take" [.src, .int t] (fun r => ∃ i, r = .int i ∧ 0 ≤ i ∧ i < t) := by
  refine fn_law_take hp ?_
  regloopunroll_open
  intro i hi
  conv => whnf
  by_cases h : i > 0
  · rw [decide_eq_true h]
    conv => whnf
    intro j hj
    conv => whnf
    refine ⟨by omega, ?_⟩
    conv => whnf
    intro k hk
    conv => whnf
    refine ⟨by omega, by omega, ?_⟩
    conv => whnf
    refine ⟨?_, ?_⟩
    · show if (0 : Int) = 0 then 0 ≤ k.fdiv t else if (0 : Int) = 1 then 0 ≤ k.fdiv t ∧ k.fdiv t < 2147483647 else False
      rw [if_pos rfl]
      exact Int.fdiv_nonneg hk (by omega)
    conv => whnf
    exact ⟨_, rfl, Int.fmod_nonneg_of_pos _ h0, Int.fmod_lt_of_pos _ h0⟩
  · rw [decide_eq_false h]
    conv => whnf
    intro j hj hj'
    conv => whnf
    refine ⟨by omega, ?_⟩
    conv => whnf
    refine ⟨by decide, ?_⟩
    conv => whnf
    refine ⟨?_, ?_⟩
    · show if (1 : Int) = 0 then 0 ≤ (j * 39373 + 7).fmod 2147483647 else if (1 : Int) = 1 then 0 ≤ (j * 39373 + 7).fmod 2147483647 ∧ (j * 39373 + 7).fmod 2147483647 < 2147483647 else False
      rw [if_neg (by decide), if_pos rfl]
      exact ⟨Int.fmod_nonneg_of_pos _ (by decide), Int.fmod_lt_of_pos _ (by decide)⟩
    conv => whnf
    intro k hk hk'
    conv => whnf
    intro l hl hl'
    conv => whnf
    refine ⟨by omega, ?_⟩
    conv => whnf
    refine ⟨by decide, ?_⟩
    conv => whnf
    refine ⟨by decide, by decide, ?_⟩
    conv => whnf
    refine ⟨by omega, ?_⟩
    conv => whnf
    exact ⟨_, rfl, Int.fmod_nonneg_of_pos _ h0, Int.fmod_lt_of_pos _ h0⟩

theorem one_ok {ds : List D} (h0' : Nat.ble 1 ds.length = true) (h1' : Nat.ble ds.length 999 = true) : CallOk c 2 "_law_one" [.src, .lst ds] (fun r => r ∈ ds) := by
  have h0 : 0 < ds.length := Nat.le_of_ble_eq_true h0'
  have h1 : ds.length < 1000 := Nat.lt_succ_of_le (Nat.le_of_ble_eq_true h1')
  refine fn_law_one hp ?_
  regloopunroll_open
  have hb : ds.length.ble 1000 = true := Nat.ble_eq.mpr (by omega)
  rw [hb]
  conv => whnf
  refine ((take_ok hp (by omega) (by omega)).le (by decide)).mono ?_
  rintro _ ⟨i, rfl, k0, k1⟩
  unfold itemW
  dsimp only
  rw [hb]
  cases i with
  | ofNat j =>
    have hj : j < ds.length := by have : (j : Int) < (ds.length : Int) := k1; omega
    dsimp only
    rw [List.getElem?_eq_getElem hj]
    exact List.getElem_mem hj
  | negSucc j => omega

/-- a piece and its text -/
noncomputable def Piece (c : Cx) (n : Nat) (f : Str) (B : Nat) (r : D) : Prop := ∃ d x, r = .tup [d, .str x] ∧ CallOk c n f [d] (fun q => q = .str x) ∧ x.length ≤ B

theorem type0_ok : CallOk c 3 "_law_type" [.src, .int 0] (Piece c 2 "type_text" 12) := by
  refine fn_law_type hp ?_
  regloopunroll_open
  refine ((one_ok hp rfl rfl).le (by decide)).mono ?_
  intro r hr
  simp only [List.mem_cons, List.not_mem_nil, or_false] at hr
  rcases hr with rfl | rfl | rfl | rfl | rfl | rfl | rfl
  · exact ⟨_, _, rfl, (ty_int hp).le (by decide), by decide⟩
  · exact ⟨_, _, rfl, (ty_bool hp).le (by decide), by decide⟩
  · exact ⟨_, _, rfl, (ty_never hp).le (by decide), by decide⟩
  · exact ⟨_, _, rfl, (ty_param hp).le (by decide), by decide⟩
  · exact ⟨_, _, rfl, (ty_unit hp).le (by decide), by decide⟩
  · exact ⟨_, _, rfl, (ty_P hp).le (by decide), by decide⟩
  · exact ⟨_, _, rfl, (ty_Q hp).le (by decide), by decide⟩

theorem type1_ok : CallOk c 4 "_law_type" [.src, .int 1] (Piece c 3 "type_text" 30) := by
  refine fn_law_type hp ?_
  regloopunroll_open
  refine ((type0_ok hp).le (by decide)).mono ?_
  rintro _ ⟨t, x, rfl, hc, hl⟩
  conv => whnf
  modx_arm
  refine ((one_ok hp rfl rfl).le (by decide)).mono ?_
  intro r hr
  simp only [List.cons_append, List.nil_append, List.mem_cons, List.not_mem_nil, or_false] at hr
  rcases hr with rfl | rfl | rfl | rfl | rfl | rfl | rfl | rfl | rfl
  · exact ⟨_, _, rfl, ty_ref1 hp hc hl, by leaf_len⟩
  · exact ⟨_, _, rfl, ty_ref2 hp hc hl, by leaf_len⟩
  · exact ⟨_, _, rfl, ty_ref3 hp hc hl, by leaf_len⟩
  · exact ⟨_, _, rfl, ty_box hp hc hl, by leaf_len⟩
  · exact ⟨_, _, rfl, ty_array hp hc hl, by leaf_len⟩
  · exact ⟨_, _, rfl, ty_tup1 hp hc hl, by leaf_len⟩
  · exact ⟨_, _, rfl, ty_tup2 hp hc hl, by leaf_len⟩
  · exact ⟨_, _, rfl, ty_R hp hc hl, by leaf_len⟩
  · exact ⟨_, _, rfl, hc.le (by decide), by leaf_len⟩
end
section
variable {c : Cx} (hp : c.p = V)
include hp

theorem val_true : CallOk c 1 "value_text" [.bool true] (fun r => r = .str "true") := by
  refine fn_value_text hp ?_
  regloopunroll_open
theorem val_false : CallOk c 1 "value_text" [.bool false] (fun r => r = .str "false") := by
  refine fn_value_text hp ?_
  regloopunroll_open
theorem val_int {i : Int} (hi : i.natAbs < 2 ^ 64) : CallOk c 1 "value_text" [.int i] (fun r => r = .str (Str.ofString (toString i))) := by
  refine fn_value_text hp ?_
  regloopunroll_open
  refine ⟨hi, ?_⟩
  conv => whnf
theorem val_unit : CallOk c 1 "value_text" [.tup []] (fun r => r = .str "()") := by
  refine fn_value_text hp ?_
  regloopunroll_open
  modx_arm
  all_goals top_caught0
theorem val_one {n : Nat} {t : D} {x : Str} (h : CallOk c n "value_text" [t] (fun r => r = .str x)) (hl : x.length ≤ 40) : CallOk c (n + 1) "value_text" [.tup [t]] (fun r => r = .str (Str.ofString "(" ++ x ++ Str.ofString ")")) := by
  refine fn_value_text hp ?_
  regloopunroll_open
  refine step_call h (Nat.le_refl _) ?_
  conv => whnf
  modx_arm
  all_goals top_caught0
theorem val_three {n : Nat} {t : D} {x : Str} (h : CallOk c (n + 1) "value_text" [t] (fun r => r = .str x)) (hl : x.length ≤ 40) : CallOk c (n + 2) "value_text" [.tup [.int 7, t, .bool true]] (fun r => r = .str (Str.ofString "(7, " ++ x ++ Str.ofString ", true)")) := by
  refine fn_value_text hp ?_
  regloopunroll_open
  refine step_call (val_int hp (by decide)) (Nat.le_add_left _ _) ?_
  conv => whnf
  refine step_call h (Nat.le_refl _) ?_
  conv => whnf
  refine step_call (val_true hp) (Nat.le_add_left _ _) ?_
  conv => whnf
  modx_arm
  all_goals top_caught0

theorem value_ok : CallOk c 3 "_law_value" [.src] (Piece c 3 "value_text" 30) := by
  refine fn_law_value hp ?_
  regloopunroll_open
  refine ((one_ok hp rfl rfl).le (by decide)).mono ?_
  intro r hr
  have hr' : ∃ d x, r = .tup [d, .str x] ∧ CallOk c 1 "value_text" [d] (fun q => q = .str x) ∧ x.length ≤ 5 := by
    simp only [List.mem_cons, List.not_mem_nil, or_false] at hr
    rcases hr with rfl | rfl | rfl | rfl | rfl | rfl
    · exact ⟨_, _, rfl, val_true hp, by decide⟩
    · exact ⟨_, _, rfl, val_false hp, by decide⟩
    · exact ⟨_, _, rfl, val_int hp (by decide), by decide⟩
    · exact ⟨_, _, rfl, val_int hp (by decide), by decide⟩
    · exact ⟨_, _, rfl, val_int hp (by decide), by decide⟩
    · exact ⟨_, _, rfl, val_unit hp, by decide⟩
  obtain ⟨d, x, rfl, hc, hl⟩ := hr'
  conv => whnf
  refine ((one_ok hp rfl rfl).le (by decide)).mono ?_
  intro r hr
  have hr' : r = .int 0 ∨ r = .int 1 ∨ r = .int 2 := by
    simp only [List.mem_cons, List.not_mem_nil, or_false] at hr
    rcases hr with rfl | rfl | rfl | rfl <;> simp
  rcases hr' with rfl | rfl | rfl
  · conv => whnf
    refine ⟨by decide, ?_⟩
    conv => whnf
    exact ⟨_, _, rfl, hc.le (by decide), by leaf_len⟩
  · conv => whnf
    refine ⟨by decide, ?_⟩
    conv => whnf
    refine ((take_ok hp (t := 2) (by decide) (by decide)).le (by decide)).mono ?_
    rintro _ ⟨i, rfl, i0, i1⟩
    obtain rfl | rfl : i = 0 ∨ i = 1 := by omega
    · conv => whnf
      modx_arm
      exact ⟨_, _, rfl, (val_one hp hc (by omega)).le (by decide), by leaf_len⟩
    · conv => whnf
      modx_arm
      exact ⟨_, _, rfl, (val_three hp hc (by omega)).le (by decide), by leaf_len⟩
  · conv => whnf
    refine ⟨by decide, ?_⟩
    conv => whnf
    refine ((take_ok hp (t := 2) (by decide) (by decide)).le (by decide)).mono ?_
    rintro _ ⟨i, rfl, i0, i1⟩
    obtain rfl | rfl : i = 0 ∨ i = 1 := by omega
    · conv => whnf
      modx_arm
      have h2 := val_one hp hc (by omega)
      refine ((take_ok hp (t := 2) (by decide) (by decide)).le (by decide)).mono ?_
      rintro _ ⟨i, rfl, i0, i1⟩
      obtain rfl | rfl : i = 0 ∨ i = 1 := by omega
      · conv => whnf
        modx_arm
        exact ⟨_, _, rfl, (val_one hp h2 (by leaf_len)).le (by decide), by leaf_len⟩
      · conv => whnf
        modx_arm
        exact ⟨_, _, rfl, (val_three hp h2 (by leaf_len)).le (by decide), by leaf_len⟩
    · conv => whnf
      modx_arm
      have h2 := val_three hp hc (by omega)
      refine ((take_ok hp (t := 2) (by decide) (by decide)).le (by decide)).mono ?_
      rintro _ ⟨i, rfl, i0, i1⟩
      obtain rfl | rfl : i = 0 ∨ i = 1 := by omega
      · conv => whnf
        modx_arm
        exact ⟨_, _, rfl, (val_one hp h2 (by leaf_len)).le (by decide), by leaf_len⟩
      · conv => whnf
        modx_arm
        exact ⟨_, _, rfl, (val_three hp h2 (by leaf_len)).le (by decide), by leaf_len⟩
end
inductive Stp where
  | deref | field (k : Int) | index (k : Int) | down (k : Int)
noncomputable abbrev shw (k : Int) : Str := Str.ofString (toString k)
noncomputable def Stp.d : Stp → D
  | .deref => .tup [.str "deref"]
  | .field k => .tup [.str "field", .int k]
  | .index k => .tup [.str "index", .int k]
  | .down k => .tup [.str "downcast", .int k]
noncomputable def Stp.app (f : Str) : Stp → Str
  | .deref => Str.ofString "(*" ++ f ++ Str.ofString ")"
  | .field k => f ++ Str.ofString "." ++ shw k
  | .index k => f ++ Str.ofString "[_" ++ shw k ++ Str.ofString "]"
  | .down k => Str.ofString "(" ++ f ++ Str.ofString " as " ++ shw k ++ Str.ofString ")"
noncomputable def Stp.ok : Stp → Prop
  | .deref => True
  | .field k => 0 ≤ k ∧ k < 12
  | .index k => 0 ≤ k ∧ k < 12
  | .down k => 0 ≤ k ∧ k < 12
theorem shw_len {k : Int} (h0 : 0 ≤ k) (h1 : k < 12) : (Str.ofString (toString k)).length ≤ 2 := by
  have : k = 0 ∨ k = 1 ∨ k = 2 ∨ k = 3 ∨ k = 4 ∨ k = 5 ∨ k = 6 ∨ k = 7 ∨ k = 8 ∨ k = 9 ∨ k = 10 ∨ k = 11 := by omega
  rcases this with rfl | rfl | rfl | rfl | rfl | rfl | rfl | rfl | rfl | rfl | rfl | rfl <;> decide
/-- the body of the second statement, a loop -/
noncomputable def loopBody : List Stmt → List Stmt
  | _ :: .For _ _ b _ _ :: _ => b
  | _ => []
section
variable {c : Cx} (hp : c.p = V)

theorem place_loop : ∀ (l : List Stp) (τ : Sig) (f : Str) (Qn : Sig → Prop) (Qr : D → Prop), (∀ s ∈ l, s.ok) → f.length + 12 * l.length ≤ 100 → (∀ τ', Qn (upd τ' "found" (.str (l.foldl Stp.app f)))) →
    forW (Wn c 0 59) (recAt 3).scope.names "projection" (loopBody (recAt 3).body) (l.map Stp.d) (upd τ "found" (.str f)) Qn Qr
  | [], τ, f, Qn, Qr, _, _, h => h τ
  | s :: l, τ, f, Qn, Qr, hl, hn, h => by
    have ih := fun τ f hn h => place_loop l τ f Qn Qr (fun s hs => hl s (List.mem_cons_of_mem _ hs)) hn h
    show exL (Wn c 0 59) (recAt 3).scope.names (loopBody (recAt 3).body) (upd (upd τ "found" (.str f)) "projection" s.d) (fun σ' => forW (Wn c 0 59) (recAt 3).scope.names "projection" (loopBody (recAt 3).body) (l.map Stp.d) σ' Qn Qr) Qr
    have hs := hl s List.mem_cons_self
    rw [List.length_cons] at hn
    cases s with
    | deref =>
      regloopunroll_open
      modx_arm
      refine ih _ _ ?_ h
      leaf_len
    | field k =>
      have := shw_len hs.1 hs.2
      regloopunroll_open
      refine ⟨by leaf_len, ?_⟩
      conv => whnf
      refine ⟨by have := hs.1; have := hs.2; omega, ?_⟩
      conv => whnf
      modx_arm
      refine ih _ _ ?_ h
      leaf_len
    | index k =>
      have := shw_len hs.1 hs.2
      regloopunroll_open
      refine ⟨by leaf_len, ?_⟩
      conv => whnf
      refine ⟨by have := hs.1; have := hs.2; omega, ?_⟩
      conv => whnf
      modx_arm
      refine ih _ _ ?_ h
      leaf_len
    | down k =>
      have := shw_len hs.1 hs.2
      regloopunroll_open
      refine ⟨by leaf_len, ?_⟩
      conv => whnf
      refine ⟨by leaf_len, ?_⟩
      conv => whnf
      refine ⟨by have := hs.1; have := hs.2; omega, ?_⟩
      conv => whnf
      modx_arm
      refine ih _ _ ?_ h
      leaf_len

include hp
theorem place_text_ok {l : List Stp} {loc : Int} (h0 : 0 ≤ loc) (h1 : loc < 12) (hl : ∀ s ∈ l, s.ok) (hn : l.length ≤ 3) : CallOk c 1 "place_text" [.tup [.int loc, .tup (l.map Stp.d)]] (fun r => r = .str (l.foldl Stp.app (Str.ofString "_" ++ shw loc))) := by
  refine fn_place_text hp ?_
  regloopunroll_open
  have := shw_len h0 h1
  refine ⟨by omega, ?_⟩
  conv => whnf
  refine ⟨by leaf_len, ?_⟩
  conv => whnf
  refine place_loop l _ _ _ _ hl ?_ (fun τ' => ?_)
  · leaf_len
  · conv => whnf
end
theorem upd_self {σ : Sig} {x : Str} {d : D} (h : σ x = some d) : upd σ x d = σ := by
  funext y
  simp only [upd]
  by_cases e : y = x
  · rw [if_pos e, e, h]
  · rw [if_neg e]

noncomputable abbrev plc (τ : Sig) (loc : Int) (l : List Stp) (a b : Str) : Sig :=
  upd (upd (upd (upd (upd τ "source" .src) "local" (.int loc)) "steps" (.lst (l.map Stp.d))) "ahead" (.str a)) "behind" (.str b)
theorem plc_use {W : WF} {nm : Names} {x : Str} {body : List Stmt} {items : List D} {σ : Sig} {loc : Int} {l : List Stp} {a b : Str} {Qn : Sig → Prop} {Qr : D → Prop}
    (h : forW W nm x body items (plc σ loc l a b) Qn Qr) (h1 : σ "source" = some .src) (h2 : σ "local" = some (.int loc)) (h3 : σ "steps" = some (.lst (l.map Stp.d))) (h4 : σ "ahead" = some (.str a)) (h5 : σ "behind" = some (.str b)) :
    forW W nm x body items σ Qn Qr := by
  have e : plc σ loc l a b = σ := by
    unfold plc
    rw [upd_self h1, upd_self h2, upd_self h3, upd_self h4, upd_self h5]
  rwa [e] at h

/-- what a place's makers keep -/
structure PInv (loc : Int) (l : List Stp) (a b : Str) : Prop where
  ok : ∀ s ∈ l, s.ok
  eq : l.foldl Stp.app (Str.ofString "_" ++ shw loc) = a ++ (Str.ofString "_" ++ shw loc) ++ b
  la : a.length ≤ 2 * l.length
  lb : b.length ≤ 8 * l.length

theorem PInv.step {loc : Int} {l : List Stp} {a b a' b' : Str} {s : Stp} (h : PInv loc l a b) (hs : s.ok) (he : Stp.app (a ++ (Str.ofString "_" ++ shw loc) ++ b) s = a' ++ (Str.ofString "_" ++ shw loc) ++ b') (ha : a'.length ≤ a.length + 2) (hb : b'.length ≤ b.length + 8) : PInv loc (l ++ [s]) a' b' where
  ok := fun t ht => by
    rcases List.mem_append.mp ht with ht | ht
    · exact h.ok t ht
    · obtain rfl := List.mem_singleton.mp ht; exact hs
  eq := by rw [List.foldl_append, h.eq]; exact he
  la := by have := h.la; simp; omega
  lb := by have := h.lb; simp; omega

section
variable {c : Cx} (hp : c.p = V)
include hp

theorem law_place_loop (loc : Int) : ∀ (items : List D) (τ : Sig) (l : List Stp) (a b : Str) (Qn : Sig → Prop) (Qr : D → Prop), items.length + l.length ≤ 3 → PInv loc l a b → (∀ τ' l' a' b', l'.length ≤ 3 → PInv loc l' a' b' → Qn (plc τ' loc l' a' b')) →
    forW (Wn c 1 59) (recAt 16).scope.names "turn" (loopBody (recAt 16).body) items (plc τ loc l a b) Qn Qr
  | [], τ, l, a, b, Qn, Qr, hn, hi, h => h τ l a b (by simpa using hn) hi
  | d :: items, τ, l, a, b, Qn, Qr, hn, hi, h => by
    rw [List.length_cons] at hn
    have ih := fun τ l a b hn hi => law_place_loop loc items τ l a b Qn Qr hn hi h
    show exL (Wn c 1 59) (recAt 16).scope.names (loopBody (recAt 16).body) (upd (plc τ loc l a b) "turn" d) (fun σ' => forW (Wn c 1 59) (recAt 16).scope.names "turn" (loopBody (recAt 16).body) items σ' Qn Qr) Qr
    have hla := hi.la
    have hlb := hi.lb
    have hb : ∀ x : D, Nat.ble ((l.map Stp.d).length + [x].length) 1000 = true := fun x => Nat.ble_eq.mpr (by simp; omega)
    regloopunroll_open
    refine ((take_ok hp (t := 4) (by decide) (by decide)).le (by decide)).mono ?_
    rintro _ ⟨i, rfl, i0, i1⟩
    conv => whnf
    refine ((take_ok hp (t := 11) (by decide) (by decide)).le (by decide)).mono ?_
    rintro _ ⟨j, rfl, j0, j1⟩
    have hj := shw_len j0 (by omega)
    obtain rfl | rfl | rfl | rfl : i = 0 ∨ i = 1 ∨ i = 2 ∨ i = 3 := by omega
    · conv => whnf
      rw [hb]
      conv => whnf
      modx_arm
      refine plc_use (loc := loc) (l := l ++ [.deref]) (ih _ _ _ _ (by simp; omega) (hi.step (s := .deref) trivial ?_ ?_ ?_)) rfl rfl ?_ rfl rfl
      · simp only [Stp.app, Str.append_assoc]
      · leaf_len
      · leaf_len
      · show some _ = some _
        rw [List.map_append]; rfl
    · conv => whnf
      rw [hb]
      conv => whnf
      modx_arm
      refine plc_use (loc := loc) (l := l ++ [.field j]) (ih _ _ _ _ (by simp; omega) (hi.step (s := .field j) ⟨j0, by omega⟩ ?_ ?_ ?_)) rfl rfl ?_ rfl rfl
      · simp only [Stp.app, Str.append_assoc]
      · leaf_len
      · leaf_len
      · show some _ = some _
        rw [List.map_append]; rfl
    · conv => whnf
      rw [hb]
      conv => whnf
      modx_arm
      refine plc_use (loc := loc) (l := l ++ [.index j]) (ih _ _ _ _ (by simp; omega) (hi.step (s := .index j) ⟨j0, by omega⟩ ?_ ?_ ?_)) rfl rfl ?_ rfl rfl
      · simp only [Stp.app, Str.append_assoc]
      · leaf_len
      · leaf_len
      · show some _ = some _
        rw [List.map_append]; rfl
    · conv => whnf
      rw [hb]
      conv => whnf
      modx_arm
      refine plc_use (loc := loc) (l := l ++ [.down j]) (ih _ _ _ _ (by simp; omega) (hi.step (s := .down j) ⟨j0, by omega⟩ ?_ ?_ ?_)) rfl rfl ?_ rfl rfl
      · simp only [Stp.app, Str.append_assoc]
      · leaf_len
      · leaf_len
      · show some _ = some _
        rw [List.map_append]; rfl

theorem place_ok : CallOk c 2 "_law_place" [.src] (Piece c 1 "place_text" 60) := by
  refine fn_law_place hp ?_
  regloopunroll_open
  refine ((take_ok hp (t := 12) (by decide) (by decide)).le (by decide)).mono ?_
  rintro _ ⟨loc, rfl, p0, p1⟩
  conv => whnf
  refine ((take_ok hp (t := 4) (by decide) (by decide)).le (by decide)).mono ?_
  rintro _ ⟨k, rfl, k0, k1⟩
  conv => whnf
  refine ⟨k0, ?_⟩
  have hloc := shw_len p0 p1
  have fin : ∀ (items : List D) (σ : Sig), items.length ≤ 3 → σ "source" = some .src → σ "local" = some (.int loc) → σ "steps" = some (.lst []) → σ "ahead" = some (.str "") → σ "behind" = some (.str "") → ∀ (Qn : Sig → Prop) (Qr : D → Prop),
      (∀ τ' l' a' b', l'.length ≤ 3 → PInv loc l' a' b' → Qn (plc τ' loc l' a' b')) → forW (Wn c 1 59) (recAt 16).scope.names "turn" (loopBody (recAt 16).body) items σ Qn Qr :=
    fun items σ hl h1 h2 h3 h4 h5 Qn Qr hq => plc_use (loc := loc) (l := []) (law_place_loop hp loc items σ [] "" "" Qn Qr (by simpa using hl)
      ⟨fun _ h => (nomatch h), (by rw [lit_nil, nil_lit]; rfl), (by decide), (by decide)⟩ hq) h1 h2 h3 h4 h5
  obtain rfl | rfl | rfl | rfl : k = 0 ∨ k = 1 ∨ k = 2 ∨ k = 3 := by omega
  all_goals
    refine fin _ _ (by decide) rfl rfl rfl rfl rfl _ _ ?_
    intro τ' l a b hl hi
    have hla := hi.la
    have hlb := hi.lb
    have hb : Nat.ble (l.map Stp.d).length 1000 = true := Nat.ble_eq.mpr (by simp; omega)
    conv => whnf
    rw [hb]
    conv => whnf
    modx_arm
    have hpt := place_text_ok hp p0 p1 hi.ok hl
    rw [hi.eq, show a ++ (Str.ofString "_" ++ shw loc) ++ b = a ++ Str.ofString "_" ++ shw loc ++ b by simp only [Str.append_assoc]] at hpt
    exact ⟨_, _, rfl, hpt, by leaf_len⟩
end
section
variable {c : Cx} (hp : c.p = V)
include hp

theorem operand_ok : CallOk c 5 "_law_operand" [.src] (Piece c 4 "operand_text" 100) := by
  refine fn_law_operand hp ?_
  regloopunroll_open
  refine ((place_ok hp).le (by decide)).mono ?_
  rintro _ ⟨p, x, rfl, hc, hl⟩
  conv => whnf
  refine ((take_ok hp (t := 3) (by decide) (by decide)).le (by decide)).mono ?_
  rintro _ ⟨i, rfl, i0, i1⟩
  obtain rfl | rfl | rfl : i = 0 ∨ i = 1 ∨ i = 2 := by omega
  · conv => whnf
    modx_arm
    refine ⟨_, _, rfl, ?_, by leaf_len⟩
    refine fn_operand_text hp ?_
    regloopunroll_open
    modx_arm
    all_goals top_caught0
  · conv => whnf
    modx_arm
    refine ⟨_, _, rfl, ?_, by leaf_len⟩
    refine fn_operand_text hp ?_
    regloopunroll_open
    modx_arm
    all_goals top_caught0
  · conv => whnf
    refine ((value_ok hp).le (by decide)).mono ?_
    rintro _ ⟨v, y, rfl, hv, hy⟩
    conv => whnf
    refine ((type1_ok hp).le (by decide)).mono ?_
    rintro _ ⟨t, z, rfl, ht, hz⟩
    conv => whnf
    modx_arm
    refine ⟨_, _, rfl, ?_, by leaf_len⟩
    refine fn_operand_text hp ?_
    regloopunroll_open
    modx_arm
    all_goals top_caught0

theorem ops0 : CallOk c 5 "operands_text" [.tup []] (fun r => r = .str "") := by
  refine fn_operands_text hp ?_
  regloopunroll_open
  modx_arm
  rfl
theorem ops1 {d1 : D} {x1 : Str} (h1 : CallOk c 4 "operand_text" [d1] (fun q => q = .str x1)) (l1 : x1.length ≤ 100) : CallOk c 5 "operands_text" [.tup [d1]] (fun r => r = .str x1) := by
  refine fn_operands_text hp ?_
  regloopunroll_open
  modx_arm
  rfl
theorem ops2 {d1 d2 : D} {x1 x2 : Str} (h1 : CallOk c 4 "operand_text" [d1] (fun q => q = .str x1)) (l1 : x1.length ≤ 100) (h2 : CallOk c 4 "operand_text" [d2] (fun q => q = .str x2)) (l2 : x2.length ≤ 100) :
    CallOk c 5 "operands_text" [.tup [d1, d2]] (fun r => r = .str (x1 ++ (Str.ofString ", " ++ x2))) := by
  refine fn_operands_text hp ?_
  regloopunroll_open
  modx_arm
  all_goals top_caught0
theorem ops3 {d1 d2 d3 : D} {x1 x2 x3 : Str} (h1 : CallOk c 4 "operand_text" [d1] (fun q => q = .str x1)) (l1 : x1.length ≤ 100) (h2 : CallOk c 4 "operand_text" [d2] (fun q => q = .str x2)) (l2 : x2.length ≤ 100)
    (h3 : CallOk c 4 "operand_text" [d3] (fun q => q = .str x3)) (l3 : x3.length ≤ 100) :
    CallOk c 5 "operands_text" [.tup [d1, d2, d3]] (fun r => r = .str (x1 ++ (Str.ofString ", " ++ (x2 ++ (Str.ofString ", " ++ x3))))) := by
  refine fn_operands_text hp ?_
  regloopunroll_open
  modx_arm
  all_goals top_caught0

theorem operands_ok : CallOk c 6 "_law_operands" [.src] (Piece c 5 "operands_text" 310) := by
  refine fn_law_operands hp ?_
  regloopunroll_open
  refine ((take_ok hp (t := 4) (by decide) (by decide)).le (by decide)).mono ?_
  rintro _ ⟨k, rfl, k0, k1⟩
  obtain rfl | rfl | rfl | rfl : k = 0 ∨ k = 1 ∨ k = 2 ∨ k = 3 := by omega
  · conv => whnf
    modx_arm
    exact ⟨_, _, rfl, ops0 hp, by leaf_len⟩
  · conv => whnf
    modx_arm
    refine ((operand_ok hp).le (by decide)).mono ?_
    rintro _ ⟨d1, x1, rfl, h1, l1⟩
    conv => whnf
    modx_arm
    exact ⟨_, _, rfl, ops1 hp h1 l1, by leaf_len⟩
  · conv => whnf
    modx_arm
    refine ((operand_ok hp).le (by decide)).mono ?_
    rintro _ ⟨d1, x1, rfl, h1, l1⟩
    conv => whnf
    refine ((operand_ok hp).le (by decide)).mono ?_
    rintro _ ⟨d2, x2, rfl, h2, l2⟩
    conv => whnf
    modx_arm
    refine ⟨_, _, rfl, (ops2 hp h1 l1 h2 l2).mono ?_, by leaf_len⟩
    rintro _ rfl
    top_caught0
  · conv => whnf
    modx_arm
    refine ((operand_ok hp).le (by decide)).mono ?_
    rintro _ ⟨d1, x1, rfl, h1, l1⟩
    conv => whnf
    refine ((operand_ok hp).le (by decide)).mono ?_
    rintro _ ⟨d2, x2, rfl, h2, l2⟩
    conv => whnf
    refine ((operand_ok hp).le (by decide)).mono ?_
    rintro _ ⟨d3, x3, rfl, h3, l3⟩
    conv => whnf
    modx_arm
    refine ⟨_, _, rfl, (ops3 hp h1 l1 h2 l2 h3 l3).mono ?_, by leaf_len⟩
    rintro _ rfl
    top_caught0
end
section
variable {c : Cx} (hp : c.p = V)
include hp

theorem callee_ok : CallOk c 5 "_law_callee" [.src] (Piece c 4 "function_text" 150) := by
  refine fn_law_callee hp ?_
  regloopunroll_open
  refine ((take_ok hp (t := 3) (by decide) (by decide)).le (by decide)).mono ?_
  rintro _ ⟨k, rfl, k0, k1⟩
  obtain rfl | rfl | rfl : k = 0 ∨ k = 1 ∨ k = 2 := by omega
  · conv => whnf
    modx_arm
    refine ((take_ok hp (t := 2) (by decide) (by decide)).le (by decide)).mono ?_
    rintro _ ⟨k, rfl, k0, k1⟩
    obtain rfl | rfl : k = 0 ∨ k = 1 := by omega
    · conv => whnf
      modx_arm
      refine ⟨_, _, rfl, ?_, by leaf_len⟩
      refine fn_function_text hp ?_
      regloopunroll_open
      modx_arm
      all_goals top_caught0
    · conv => whnf
      refine ((type1_ok hp).le (by decide)).mono ?_
      rintro _ ⟨t, x, rfl, h, l⟩
      conv => whnf
      modx_arm
      refine ⟨_, _, rfl, ?_, by leaf_len⟩
      refine fn_function_text hp ?_
      regloopunroll_open
      modx_arm
      all_goals top_caught0
  · conv => whnf
    modx_arm
    refine ((type1_ok hp).le (by decide)).mono ?_
    rintro _ ⟨d1, x1, rfl, h1, l1⟩
    conv => whnf
    modx_arm
    refine ((take_ok hp (t := 2) (by decide) (by decide)).le (by decide)).mono ?_
    rintro _ ⟨k, rfl, k0, k1⟩
    obtain rfl | rfl : k = 0 ∨ k = 1 := by omega
    · conv => whnf
      modx_arm
      refine ⟨_, _, rfl, ?_, by leaf_len⟩
      refine fn_function_text hp ?_
      regloopunroll_open
      modx_arm
      all_goals top_caught0
    · conv => whnf
      refine ((type1_ok hp).le (by decide)).mono ?_
      rintro _ ⟨t, x, rfl, h, l⟩
      conv => whnf
      modx_arm
      refine ⟨_, _, rfl, ?_, by leaf_len⟩
      refine fn_function_text hp ?_
      regloopunroll_open
      modx_arm
      all_goals top_caught0
  · conv => whnf
    modx_arm
    refine ((type1_ok hp).le (by decide)).mono ?_
    rintro _ ⟨d1, x1, rfl, h1, l1⟩
    conv => whnf
    refine ((type1_ok hp).le (by decide)).mono ?_
    rintro _ ⟨d2, x2, rfl, h2, l2⟩
    conv => whnf
    modx_arm
    refine ((take_ok hp (t := 2) (by decide) (by decide)).le (by decide)).mono ?_
    rintro _ ⟨k, rfl, k0, k1⟩
    obtain rfl | rfl : k = 0 ∨ k = 1 := by omega
    · conv => whnf
      modx_arm
      refine ⟨_, _, rfl, ?_, by leaf_len⟩
      refine fn_function_text hp ?_
      regloopunroll_open
      modx_arm
      all_goals top_caught0
    · conv => whnf
      refine ((type1_ok hp).le (by decide)).mono ?_
      rintro _ ⟨t, x, rfl, h, l⟩
      conv => whnf
      modx_arm
      refine ⟨_, _, rfl, ?_, by leaf_len⟩
      refine fn_function_text hp ?_
      regloopunroll_open
      modx_arm
      all_goals top_caught0

theorem rvalue_ok : CallOk c 7 "_law_rvalue" [.src] (Piece c 6 "rvalue_text" 700) := by
  refine fn_law_rvalue hp ?_
  regloopunroll_open
  refine ((take_ok hp (t := 11) (by decide) (by decide)).le (by decide)).mono ?_
  rintro _ ⟨k, rfl, k0, k1⟩
  obtain rfl | rfl | rfl | rfl | rfl | rfl | rfl | rfl | rfl | rfl | rfl : k = 0 ∨ k = 1 ∨ k = 2 ∨ k = 3 ∨ k = 4 ∨ k = 5 ∨ k = 6 ∨ k = 7 ∨ k = 8 ∨ k = 9 ∨ k = 10 := by omega
  · -- a borrow
    conv => whnf
    refine ((place_ok hp).le (by decide)).mono ?_
    rintro _ ⟨p, x, rfl, h, l⟩
    conv => whnf
    refine ((one_ok hp rfl rfl).le (by decide)).mono ?_
    intro r hr
    simp only [List.mem_cons, List.not_mem_nil, or_false] at hr
    rcases hr with rfl | rfl | rfl
    all_goals
      conv => whnf
      refine ((one_ok hp rfl rfl).le (by decide)).mono ?_
      intro r hr
      have hr' : ∃ b, r = .str b ∧ b.length ≤ 9 := by
        simp only [List.mem_cons, List.not_mem_nil, or_false] at hr
        rcases hr with rfl | rfl | rfl <;> exact ⟨_, rfl, by decide⟩
      obtain ⟨b, rfl, lb⟩ := hr'
      conv => whnf
      modx_arm
      refine ⟨_, _, rfl, ?_, by leaf_len⟩
      refine fn_rvalue_text hp ?_
      regloopunroll_open
      modx_arm
      all_goals top_caught0
  · -- a cast
    conv => whnf
    refine ((type1_ok hp).le (by decide)).mono ?_
    rintro _ ⟨t, y, rfl, ht, lt⟩
    conv => whnf
    refine ((operand_ok hp).le (by decide)).mono ?_
    rintro _ ⟨d, x, rfl, h, l⟩
    conv => whnf
    modx_arm
    refine ⟨_, _, rfl, ?_, by leaf_len⟩
    refine fn_rvalue_text hp ?_
    regloopunroll_open
    modx_arm
    all_goals top_caught0
  · -- an adt
    conv => whnf
    refine ((type1_ok hp).le (by decide)).mono ?_
    rintro _ ⟨t, y, rfl, ht, lt⟩
    conv => whnf
    refine ((operands_ok hp).le (by decide)).mono ?_
    rintro _ ⟨d, x, rfl, h, l⟩
    conv => whnf
    modx_arm
    refine ⟨_, _, rfl, ?_, by leaf_len⟩
    refine fn_rvalue_text hp ?_
    regloopunroll_open
    modx_arm
    all_goals top_caught0
  · -- a tuple or an array
    conv => whnf
    refine ((type1_ok hp).le (by decide)).mono ?_
    rintro _ ⟨t, y, rfl, ht, lt⟩
    conv => whnf
    refine ((operands_ok hp).le (by decide)).mono ?_
    rintro _ ⟨d, x, rfl, h, l⟩
    conv => whnf
    refine ((one_ok hp rfl rfl).le (by decide)).mono ?_
    intro r hr
    simp only [List.mem_cons, List.not_mem_nil, or_false] at hr
    rcases hr with rfl | rfl
    all_goals
      conv => whnf
      modx_arm
      refine ⟨_, _, rfl, ?_, by leaf_len⟩
      refine fn_rvalue_text hp ?_
      regloopunroll_open
      modx_arm
      all_goals top_caught0
  · -- use
    conv => whnf
    refine ((operand_ok hp).le (by decide)).mono ?_
    rintro _ ⟨d, x, rfl, h, l⟩
    conv => whnf
    modx_arm
    refine ⟨_, _, rfl, ?_, by leaf_len⟩
    refine fn_rvalue_text hp ?_
    regloopunroll_open
    modx_arm
    all_goals top_caught0
  · -- box
    conv => whnf
    refine ((operand_ok hp).le (by decide)).mono ?_
    rintro _ ⟨d, x, rfl, h, l⟩
    conv => whnf
    modx_arm
    refine ⟨_, _, rfl, ?_, by leaf_len⟩
    refine fn_rvalue_text hp ?_
    regloopunroll_open
    modx_arm
    all_goals top_caught0
  · -- unary
    conv => whnf
    refine ((operand_ok hp).le (by decide)).mono ?_
    rintro _ ⟨d, x, rfl, h, l⟩
    conv => whnf
    modx_arm
    refine ⟨_, _, rfl, ?_, by leaf_len⟩
    refine fn_rvalue_text hp ?_
    regloopunroll_open
    modx_arm
    all_goals top_caught0
  · -- discriminant
    conv => whnf
    refine ((place_ok hp).le (by decide)).mono ?_
    rintro _ ⟨p, x, rfl, h, l⟩
    conv => whnf
    modx_arm
    refine ⟨_, _, rfl, ?_, by leaf_len⟩
    refine fn_rvalue_text hp ?_
    regloopunroll_open
    modx_arm
    all_goals top_caught0
  all_goals
    conv => whnf
    refine ((operand_ok hp).le (by decide)).mono ?_
    rintro _ ⟨d, x, rfl, h, l⟩
    conv => whnf
    refine ((one_ok hp rfl rfl).le (by decide)).mono ?_
    intro r hr
    simp only [List.mem_cons, List.not_mem_nil, or_false] at hr
    rcases hr with rfl | rfl | rfl
    all_goals
      conv => whnf
      refine ((operand_ok hp).le (by decide)).mono ?_
      rintro _ ⟨d2, x2, rfl, h2, l2⟩
      conv => whnf
      modx_arm
      refine ⟨_, _, rfl, ?_, by leaf_len⟩
      have ho := ops2 hp h l h2 l2
      refine fn_rvalue_text hp ?_
      regloopunroll_open
      modx_arm
      all_goals top_caught0
end
section
variable {c : Cx} (hp : c.p = V)
include hp

theorem statement_ok : CallOk c 8 "_law_statement" [.src] (Piece c 7 "statement_text" 800) := by
  refine fn_law_statement hp ?_
  regloopunroll_open
  refine ((take_ok hp (t := 5) (by decide) (by decide)).le (by decide)).mono ?_
  rintro _ ⟨k, rfl, k0, k1⟩
  obtain rfl | rfl | rfl | rfl | rfl : k = 0 ∨ k = 1 ∨ k = 2 ∨ k = 3 ∨ k = 4 := by omega
  · conv => whnf
    refine ((place_ok hp).le (by decide)).mono ?_
    rintro _ ⟨p, x, rfl, h, l⟩
    conv => whnf
    refine ((rvalue_ok hp).le (by decide)).mono ?_
    rintro _ ⟨q, y, rfl, hq, lq⟩
    conv => whnf
    modx_arm
    refine ⟨_, _, rfl, ?_, by leaf_len⟩
    refine fn_statement_text hp ?_
    regloopunroll_open
    modx_arm
    all_goals top_caught0
  · conv => whnf
    refine ((place_ok hp).le (by decide)).mono ?_
    rintro _ ⟨p, x, rfl, h, l⟩
    conv => whnf
    refine ((rvalue_ok hp).le (by decide)).mono ?_
    rintro _ ⟨q, y, rfl, hq, lq⟩
    conv => whnf
    modx_arm
    refine ⟨_, _, rfl, ?_, by leaf_len⟩
    refine fn_statement_text hp ?_
    regloopunroll_open
    modx_arm
    all_goals top_caught0
  · conv => whnf
    refine ((operand_ok hp).le (by decide)).mono ?_
    rintro _ ⟨d, x, rfl, h, l⟩
    conv => whnf
    modx_arm
    refine ⟨_, _, rfl, ?_, by leaf_len⟩
    refine fn_statement_text hp ?_
    regloopunroll_open
    modx_arm
    all_goals top_caught0
  all_goals
    conv => whnf
    refine ((one_ok hp rfl rfl).le (by decide)).mono ?_
    intro r hr
    simp only [List.mem_cons, List.not_mem_nil, or_false] at hr
    rcases hr with rfl | rfl | rfl
    all_goals
      refine ⟨_, _, rfl, ?_, by decide⟩
      refine fn_statement_text hp ?_
      regloopunroll_open
      modx_arm
      all_goals top_caught0

theorem bn_none : CallOk c 1 "block_name" [.none] (fun r => r = .str "none") := by
  refine fn_block_name hp ?_
  regloopunroll_open
theorem bn_0 : CallOk c 1 "block_name" [.int 0] (fun r => r = .str "b0") := by
  refine fn_block_name hp ?_
  regloopunroll_open
  modx_arm
  all_goals top_caught0
theorem bn_2 : CallOk c 1 "block_name" [.int 2] (fun r => r = .str "b2") := by
  refine fn_block_name hp ?_
  regloopunroll_open
  modx_arm
  all_goals top_caught0
theorem bn_9 : CallOk c 1 "block_name" [.int 9] (fun r => r = .str "b9") := by
  refine fn_block_name hp ?_
  regloopunroll_open
  modx_arm
  all_goals top_caught0
theorem bn_13 : CallOk c 1 "block_name" [.int 13] (fun r => r = .str "b13") := by
  refine fn_block_name hp ?_
  regloopunroll_open
  modx_arm
  all_goals top_caught0

theorem terminator_ok : CallOk c 7 "_law_terminator" [.src] (Piece c 6 "terminator_text" 800) := by
  have vt := val_true hp
  have b9 := bn_9 hp
  refine fn_law_terminator hp ?_
  regloopunroll_open
  refine ((take_ok hp (t := 6) (by decide) (by decide)).le (by decide)).mono ?_
  rintro _ ⟨k, rfl, k0, k1⟩
  conv => whnf
  refine ((one_ok hp rfl rfl).le (by decide)).mono ?_
  intro r hr
  have hr' : ∃ g nm, r = .tup [g, .str nm] ∧ CallOk c 1 "block_name" [g] (fun q => q = .str nm) ∧ nm.length ≤ 4 := by
    simp only [List.mem_cons, List.not_mem_nil, or_false] at hr
    rcases hr with rfl | rfl
    · exact ⟨_, _, rfl, bn_0 hp, by decide⟩
    · exact ⟨_, _, rfl, bn_13 hp, by decide⟩
  obtain ⟨g, nm, rfl, hg, lg⟩ := hr'
  conv => whnf
  refine ((one_ok hp rfl rfl).le (by decide)).mono ?_
  intro r hr
  have hr' : ∃ g nm, r = .tup [g, .str nm] ∧ CallOk c 1 "block_name" [g] (fun q => q = .str nm) ∧ nm.length ≤ 4 := by
    simp only [List.mem_cons, List.not_mem_nil, or_false] at hr
    rcases hr with rfl | rfl
    · exact ⟨_, _, rfl, bn_none hp, by decide⟩
    · exact ⟨_, _, rfl, bn_2 hp, by decide⟩
  obtain ⟨en, em, rfl, he, le⟩ := hr'
  clear hr
  obtain rfl | rfl | rfl | rfl | rfl | rfl : k = 0 ∨ k = 1 ∨ k = 2 ∨ k = 3 ∨ k = 4 ∨ k = 5 := by omega
  · -- a call
    conv => whnf
    refine ((callee_ok hp).le (by decide)).mono ?_
    rintro _ ⟨f, x, rfl, hf, lf⟩
    conv => whnf
    refine ((operands_ok hp).le (by decide)).mono ?_
    rintro _ ⟨d, y, rfl, hd, ld⟩
    conv => whnf
    refine ((place_ok hp).le (by decide)).mono ?_
    rintro _ ⟨p, z, rfl, hz, lz⟩
    conv => whnf
    modx_arm
    refine ⟨_, _, rfl, ?_, by leaf_len⟩
    refine fn_terminator_text hp ?_
    regloopunroll_open
    modx_arm
    all_goals top_caught0
  · -- drop
    conv => whnf
    refine ((place_ok hp).le (by decide)).mono ?_
    rintro _ ⟨p, z, rfl, hz, lz⟩
    conv => whnf
    modx_arm
    refine ⟨_, _, rfl, ?_, by leaf_len⟩
    refine fn_terminator_text hp ?_
    regloopunroll_open
    modx_arm
    all_goals top_caught0
  · -- assert
    conv => whnf
    refine ((operand_ok hp).le (by decide)).mono ?_
    rintro _ ⟨p, z, rfl, hz, lz⟩
    conv => whnf
    modx_arm
    refine ⟨_, _, rfl, ?_, by leaf_len⟩
    refine fn_terminator_text hp ?_
    regloopunroll_open
    modx_arm
    all_goals top_caught0
  · -- switch
    conv => whnf
    refine ((operand_ok hp).le (by decide)).mono ?_
    rintro _ ⟨p, z, rfl, hz, lz⟩
    conv => whnf
    refine ((take_ok hp (t := 3) (by decide) (by decide)).le (by decide)).mono ?_
    rintro _ ⟨k, rfl, k0, k1⟩
    obtain rfl | rfl | rfl : k = 0 ∨ k = 1 ∨ k = 2 := by omega
    · conv => whnf
      modx_arm
      refine ⟨_, _, rfl, ?_, by leaf_len⟩
      refine fn_terminator_text hp ?_
      regloopunroll_open
      modx_arm
      all_goals top_caught0
    · conv => whnf
      modx_arm
      refine ((value_ok hp).le (by decide)).mono ?_
      rintro _ ⟨v1, x1, rfl, h1, l1⟩
      conv => whnf
      modx_arm
      refine ⟨_, _, rfl, ?_, by leaf_len⟩
      refine fn_terminator_text hp ?_
      regloopunroll_open
      modx_arm
      all_goals top_caught0
    · conv => whnf
      modx_arm
      refine ((value_ok hp).le (by decide)).mono ?_
      rintro _ ⟨v1, x1, rfl, h1, l1⟩
      conv => whnf
      refine ((value_ok hp).le (by decide)).mono ?_
      rintro _ ⟨v2, x2, rfl, h2, l2⟩
      conv => whnf
      modx_arm
      refine ⟨_, _, rfl, ?_, by leaf_len⟩
      refine fn_terminator_text hp ?_
      regloopunroll_open
      modx_arm
      all_goals top_caught0
  all_goals
    conv => whnf
    modx_arm
    refine ((one_ok hp rfl rfl).le (by decide)).mono ?_
    intro r hr
    simp only [List.mem_cons, List.not_mem_nil, or_false] at hr
    rcases hr with rfl | rfl | rfl | rfl
    all_goals
      refine ⟨_, _, rfl, ?_, by leaf_len⟩
      refine fn_terminator_text hp ?_
      regloopunroll_open
      modx_arm
      all_goals top_caught0
end
section
variable {c : Cx}

/-- a def's body, opened -/
theorem def_open {n : Nat} {d : DefRec} {xs : List Str} {ds : List D} (hd : d ∈ recsOf c.p) (hlen : xs.length = ds.length)
    (hbind : ∀ pm code doc vs, vs.length = ds.length → bindArgs (Calls.docDef d.name d.params d.body d.scope pm code doc) ⟨vs, []⟩ = pure (xs.zip vs))
    (hcell : ∀ x ∈ d.scope.names, x.2 ≠ .cell) (hloc : ∀ x ∈ xs, d.scope.names.lookup x = some .local) (hk : d.scope.kind = .function) (hco : d.scope.isCoroutine = false) (hgen : d.scope.isGenerator = false)
    {a' : Addr} (ha' : c.mg d.name = some (.ref a')) {X : Addr → Prop} {A : Around} {s : Shared} {vs : List Value} {Qm : Value → Shared → Prop} {E : Value → Shared → Prop} (hA : Room A (n + 1)) (hB : Base c X s.heap) (hr : RepL c.src X s.heap vs ds)
    (h : ∀ (A' : Around) (env : Env) (h1 : Heap) (tk : Nat) (E' : Value → Shared → Prop), EnvS env d.scope.names → Room A' n → St c X env (upds xs ds noSig) h1 → (∀ b o, s.heap.get? b = some o → h1.get? b = some o) → s.heap.get? env.locals = Option.none →
      wpAny (model c.prog c.w) A' (execs d.body env) (fun f s' => Qm (match f with | .ret v => v | _ => .none) s') E' { s with heap := h1, toks := tk }) :
    wpAny (model c.prog c.w) A (call (.ref a') vs) Qm E s := by
  obtain ⟨a, o, pm, code, doc, h1, h2, h3, h4⟩ := c.top.fn d hd
  rw [h1] at ha'; cases ha'
  have hzip : ∀ y ∈ xs.zip vs, d.scope.names.lookup y.1 = some .local := fun y hy => hloc _ (List.of_mem_zip hy).1
  refine wpAny_call (codeAny_call_def (fd := Calls.docDef d.name d.params d.body d.scope pm code doc) (body := d.body) (binds := xs.zip vs) (by have := hA.depth; omega) (hB.keep _ _ h2) h3 (c.top.nolimit.keeps hB.keep)
    (h4.keeps hB.keep) rfl (BindsTo.of_eq (hbind pm code doc vs hr.1)) hcell hzip (fun h1' hns hk1 => ?_) hco hgen hk)
  have hL0 : c.h₀.get? s.heap.objs.size = Option.none := by
    cases e : c.h₀.get? s.heap.objs.size with
    | none => rfl
    | some o => exact absurd (Heap.lt_size (hB.keep _ _ e)) (Nat.lt_irrefl _)
  have S : St c X (callEnv (Calls.docDef d.name d.params d.body d.scope pm code doc) s.heap.objs.size a') (upds xs ds noSig) h1' :=
    { toBase := hB.grow hk1
      fresh := hL0
      loc := ⟨_, hns, fun x e hx he => by
        rcases bind_rel hr hlen x e he with ⟨v, q1, q2⟩ | ⟨_, q2⟩
        · exact ⟨v, q1, q2.extC hB (.of_keep hk1)⟩
        · cases q2⟩
      cel := fun x e hx he => by
        have : (x, NameKind.cell) ∈ d.scope.names := lookup_mem hx
        exact absurd rfl (hcell _ this) }
  exact h _ _ h1' _ _ ⟨hk, rfl, rfl, rfl⟩ (room_deeper hA) S hk1 fresh_size

theorem exL_split {W : WF} {nm : Names} {st : Stmt} {sts : List Stmt} {σ : Sig} {Qn : Sig → Prop} {Qr : D → Prop} (h : exL W nm (st :: sts) σ Qn Qr) : W.ex nm σ st (fun σ' => exL W nm sts σ' Qn Qr) Qr := h

/-- what the pool hands back -/
noncomputable def PoolOk (ds : List D) : Prop := ∃ n m, ds = [.int n, .int m] ∧ 0 ≤ n ∧ 0 ≤ m ∧ m < 2147483647

noncomputable def lastList : List Stmt → List Expr
  | [_, _, .Return (some (.List es _)) _] => es
  | _ => []
noncomputable def twoOf : List Stmt → List Stmt
  | [a, b, _] => [a, b]
  | _ => []

theorem pool_tail (z : Int) (hz : 0 ≤ z) (σ : Sig) (hσ : σ "size" = some (.int z)) : evL (Wn c 0 60) (recAt 12).scope.names σ (lastList (recAt 12).body) PoolOk := by
  conv => arg 2; whnf
  conv => arg 4; whnf
  conv => whnf
  rw [hσ]
  conv => whnf
  refine ⟨by decide, by decide, by decide, ?_⟩
  conv => whnf
  have fin : ∀ n : Int, 0 ≤ n → PoolOk [.int n, .int (((z.fmod 2147483629 + 23) * 48271).fmod 2147483647)] := fun n hn =>
    ⟨n, _, rfl, hn, Int.fmod_nonneg_of_pos _ (by decide), Int.fmod_lt_of_pos _ (by decide)⟩
  have h2 : (z.fmod 2147483629 + 23).natAbs < 2 ^ 64 := by
    have p1 := Int.fmod_nonneg_of_pos z (b := 2147483629) (by decide)
    have p2 := Int.fmod_lt_of_pos z (b := 2147483629) (by decide)
    omega
  generalize decide (z ≥ _) = b
  cases b with
  | true =>
    conv => whnf
    rw [hσ]
    conv => whnf
    rw [hσ]
    conv => whnf
    refine ⟨by decide, ?_⟩
    conv => whnf
    refine ⟨h2, ?_⟩
    conv => whnf
    refine ⟨by decide, ?_⟩
    exact fin z hz
  | false =>
    conv => whnf
    rw [hσ]
    conv => whnf
    refine ⟨by decide, ?_⟩
    conv => whnf
    refine ⟨h2, ?_⟩
    conv => whnf
    refine ⟨by decide, ?_⟩
    exact fin 0 (by decide)

/-- the pool's body: two names, then the two cells of the list -/
theorem pool_body (ns : List Int) (hn : ns.length ≤ 63) : exL (Wn c 0 60) (recAt 12).scope.names (twoOf (recAt 12).body) (upd noSig "script" (.lst (ns.map .int)))
    (fun σ => evL (Wn c 0 60) (recAt 12).scope.names σ (lastList (recAt 12).body) PoolOk) (fun _ => False) := by
  have hl : (ns.map D.int).length ≤ 63 := by simpa using hn
  have hb : Nat.ble (ns.map D.int).length 1000 = true := Nat.ble_eq.mpr (by omega)
  have key : ∀ z : Int, 0 ≤ z → ∀ σ : Sig, σ "size" = some (.int z) → evL (Wn c 0 60) (recAt 12).scope.names σ (lastList (recAt 12).body) PoolOk := fun z hz σ h => pool_tail z hz σ h
  generalize evL (Wn c 0 60) (recAt 12).scope.names = G at key ⊢
  generalize lastList (recAt 12).body = L at key ⊢
  cases ns with
  | nil =>
    regloopunroll_open
    exact key 0 (by decide) _ rfl
  | cons k ks =>
    have hz : decide (0 < (((k :: ks).map D.int).length : Int)) = true := decide_eq_true (by simp)
    rw [List.map_cons] at hl hb hz ⊢
    generalize hds : ks.map D.int = ds at hl hb hz ⊢
    regloopunroll_open
    rw [hb]
    conv => whnf
    rw [hz]
    conv => whnf
    rw [hb]
    conv => whnf
    by_cases h0 : k ≥ 0
    · rw [decide_eq_true h0]
      conv => whnf
      exact key k h0 _ rfl
    · rw [decide_eq_false h0]
      conv => whnf
      exact key _ (by omega) _ rfl
end
section
variable {c : Cx} (hp : c.p = V)

theorem pool_shape : ∃ a b es lp rp, (recAt 12).body = [a, b, .Return (some (.List es lp)) rp] := ⟨_, _, _, _, _, by rfl⟩

include hp in
/-- the pool: a new list of two cells -/
theorem pool_call (hs : c.src = Option.none) {a' : Addr} (ha' : c.mg "_law_pool" = some (.ref a')) {X : Addr → Prop} {A : Around} {s : Shared} {v : Value} {ns : List Int} {Qm : Value → Shared → Prop} {E : Value → Shared → Prop}
    (hA : Room A 1) (hB : Base c X s.heap) (hr : Rep c.src X s.heap v (.lst (ns.map .int))) (hn : ns.length ≤ 63)
    (h : ∀ b h' tk, Base c X h' → (∀ d o, s.heap.get? d = some o → h'.get? d = some o) → s.heap.get? b = Option.none → SrcAt h' b → Qm (.ref b) { s with heap := h', toks := tk }) :
    wpAny (model c.prog c.w) A (call (.ref a') [v]) Qm E s := by
  obtain ⟨a, b, es, lp, rp, hbody⟩ := pool_shape
  have hnd : noDebug (recAt 12).scope.names = true := by decide
  have pb := pool_body (c := c) ns hn
  have e1 : twoOf (recAt 12).body = [a, b] := by rw [hbody]; rfl
  have e2 : lastList (recAt 12).body = es := by rw [hbody]; rfl
  rw [e1, e2] at pb
  refine def_open (c := c) (n := 0) (d := recAt 12) (xs := ["script"]) (ds := [.lst (ns.map .int)]) (rec_mem hp (by decide)) rfl (fun pm code doc vs hv => ?_) (fun y hy => ?_) (fun y hy => ?_) rfl rfl rfl (a' := a') ha' hA hB (.cons hr .nil)
    (fun A' env h1 tk E' hE hA' S hk1 hloc => ?_)
  · obtain ⟨v, rfl⟩ := List.length_eq_one_iff.mp hv
    rfl
  · have : ((recAt 12).scope.names.all fun x => decide (x.2 ≠ .cell)) = true := by decide
    have := List.all_eq_true.mp this y hy
    simpa using this
  · obtain rfl := List.mem_singleton.mp hy
    rfl
  rw [hbody]
  have old : ∀ {h h'}, Ext c env.locals h h' → (∀ d o, s.heap.get? d = some o → h.get? d = some o) → (∀ d o, s.heap.get? d = some o → h'.get? d = some o) := fun x k d o e => x d o (k d o e) (by rw [hs]; intro q; cases q) (fun q => by rw [q, hloc] at e; cases e)
  have W := Wn_ok c 0 60
  refine wpAny_execs_cons (W.ex _ hnd _ _ _ _ (exL_split pb) X A' env _ _ E' hE hA' S (fun σ1 h2 tk2 S2 x2 q2 => ?_) fun σ1 v1 d1 h2 tk2 S2 x2 r2 q2 => q2.elim)
  refine wpAny_execs_cons (W.ex _ hnd _ _ _ _ (exL_split q2) X A' env _ _ E' hE hA' S2 (fun σ2 h3 tk3 S3 x3 q3 => ?_) fun σ1 v1 d1 h2 tk2 S2 x2 r2 q2 => q2.elim)
  refine wpAny_execs_cons (wpAny_Return_some (wpAny_List_spliced (evL_ok W hnd q3 X A' env _ lp _ E' hE hA' S3 fun vs ds h4 tk4 S4 x4 r4 q4 => ?_)))
  obtain ⟨_, n, m, rfl, hn0, hm0, hm1⟩ := q4
  obtain ⟨v1, t1, rfl, ra, t2⟩ := r4.inv_cons
  obtain ⟨v2, t3, rfl, rb, t4⟩ := t2.inv_cons
  obtain rfl := t4.inv_nil
  cases ra with
  | int _ u1 =>
  cases rb with
  | int _ u2 =>
  have k2 := old x2 hk1
  have k3 := old x3 k2
  have k4 := old x4 k3
  refine ⟨by rw [sizeLine_eq]; simp, ?_⟩
  refine h _ _ _ (S4.toBase.grow (push_keep _)) (fun d o e => push_keep _ d o (k4 d o e)) ?_ ⟨n, m, u1, u2, ⟨_, Heap.get?_push_size _ rfl, rfl, _, rfl⟩, hn0, hm0, hm1⟩
  cases e : s.heap.get? h4.objs.size with
  | none => rfl
  | some o => exact absurd (Heap.lt_size (k4 _ _ e)) (Nat.lt_irrefl _)
end
section
variable {c : Cx} (hp : c.p = V)
include hp

theorem val_pair : CallOk c 3 "value_text" [.tup [.int 1, .tup [.bool false]]] (fun r => r = .str "(1, (false))") := by
  refine fn_value_text hp ?_
  regloopunroll_open
  refine step_call (val_int hp (by decide)) (Nat.le_add_left _ _) ?_
  conv => whnf
  refine step_call (val_one hp (val_false hp) (by decide)) (Nat.le_refl _) ?_
  conv => whnf
  modx_arm
  exact congrArg D.str (by decide)

noncomputable def headOf : List Stmt → List Stmt
  | s :: _ => [s]
  | _ => []
noncomputable def tailOf : List Stmt → List Stmt
  | _ :: _ :: r => r
  | _ => []

theorem law_head (d : D) : exL (Wn c 8 60) (recAt 24).scope.names (headOf (recAt 24).body) (upd noSig "script" d) (fun σ => σ = upd noSig "script" d) (fun _ => False) := by
  regloopunroll_open
  refine step_call (val_true hp) (by decide) ?_
  conv => whnf
  refine step_call (val_pair hp) (by decide) ?_
  conv => whnf
theorem law_tail : exL (Wn c 8 60) (recAt 24).scope.names (tailOf (recAt 24).body) (upd noSig "source" .src) (fun _ => False) (fun r => r = .bool true) := by
  regloopunroll_open
  refine ⟨by decide, ?_⟩
  conv => whnf
  refine ((value_ok hp).le (by decide)).mono ?_
  rintro _ ⟨d0, x0, rfl, h0, l0⟩
  conv => whnf
  refine ((callee_ok hp).le (by decide)).mono ?_
  rintro _ ⟨d1, x1, rfl, h1, l1⟩
  conv => whnf
  refine step_call h0 (by decide) ?_
  conv => whnf
  rw [bne_self_eq_false]
  conv => whnf
  refine step_call h1 (by decide) ?_
  conv => whnf
  rw [bne_self_eq_false]
  conv => whnf
  refine ((value_ok hp).le (by decide)).mono ?_
  rintro _ ⟨d2, x2, rfl, h2, l2⟩
  conv => whnf
  refine ((callee_ok hp).le (by decide)).mono ?_
  rintro _ ⟨d3, x3, rfl, h3, l3⟩
  conv => whnf
  refine step_call h2 (by decide) ?_
  conv => whnf
  rw [bne_self_eq_false]
  conv => whnf
  refine step_call h3 (by decide) ?_
  conv => whnf
  rw [bne_self_eq_false]
  conv => whnf
  refine ((value_ok hp).le (by decide)).mono ?_
  rintro _ ⟨d4, x4, rfl, h4, l4⟩
  conv => whnf
  refine ((callee_ok hp).le (by decide)).mono ?_
  rintro _ ⟨d5, x5, rfl, h5, l5⟩
  conv => whnf
  refine step_call h4 (by decide) ?_
  conv => whnf
  rw [bne_self_eq_false]
  conv => whnf
  refine step_call h5 (by decide) ?_
  conv => whnf
  rw [bne_self_eq_false]
  conv => whnf
  refine ⟨by decide, ?_⟩
  conv => whnf
  refine ((rvalue_ok hp).le (by decide)).mono ?_
  rintro _ ⟨d6, x6, rfl, h6, l6⟩
  conv => whnf
  refine ((statement_ok hp).le (by decide)).mono ?_
  rintro _ ⟨d7, x7, rfl, h7, l7⟩
  conv => whnf
  refine ((terminator_ok hp).le (by decide)).mono ?_
  rintro _ ⟨d8, x8, rfl, h8, l8⟩
  conv => whnf
  refine step_call h6 (by decide) ?_
  conv => whnf
  rw [bne_self_eq_false]
  conv => whnf
  refine step_call h7 (by decide) ?_
  conv => whnf
  rw [bne_self_eq_false]
  conv => whnf
  refine step_call h8 (by decide) ?_
  conv => whnf
  rw [bne_self_eq_false]
  conv => whnf
  refine ((rvalue_ok hp).le (by decide)).mono ?_
  rintro _ ⟨d9, x9, rfl, h9, l9⟩
  conv => whnf
  refine ((statement_ok hp).le (by decide)).mono ?_
  rintro _ ⟨d10, x10, rfl, h10, l10⟩
  conv => whnf
  refine ((terminator_ok hp).le (by decide)).mono ?_
  rintro _ ⟨d11, x11, rfl, h11, l11⟩
  conv => whnf
  refine step_call h9 (by decide) ?_
  conv => whnf
  rw [bne_self_eq_false]
  conv => whnf
  refine step_call h10 (by decide) ?_
  conv => whnf
  rw [bne_self_eq_false]
  conv => whnf
  refine step_call h11 (by decide) ?_
  conv => whnf
  rw [bne_self_eq_false]
  conv => whnf
  refine ((rvalue_ok hp).le (by decide)).mono ?_
  rintro _ ⟨d12, x12, rfl, h12, l12⟩
  conv => whnf
  refine ((statement_ok hp).le (by decide)).mono ?_
  rintro _ ⟨d13, x13, rfl, h13, l13⟩
  conv => whnf
  refine ((terminator_ok hp).le (by decide)).mono ?_
  rintro _ ⟨d14, x14, rfl, h14, l14⟩
  conv => whnf
  refine step_call h12 (by decide) ?_
  conv => whnf
  rw [bne_self_eq_false]
  conv => whnf
  refine step_call h13 (by decide) ?_
  conv => whnf
  rw [bne_self_eq_false]
  conv => whnf
  refine step_call h14 (by decide) ?_
  conv => whnf
  rw [bne_self_eq_false]
  conv => whnf
end
section
theorem law_shape : ∃ a p1 p2 p3 p4 p5 r, (recAt 24).body = a :: .Assign [.Name "source" p1] (.Call (.Name "_law_pool" p2) [.Name "script" p3] [] p4) p5 :: r := ⟨_, _, _, _, _, _, _, by rfl⟩

/-- the run of law's body -/
theorem law_run {c0 : Cx} (hp : c0.p = V) (hs : c0.src = Option.none) {X : Addr → Prop} {A : Around} {env : Env} {s : Shared} {ns : List Int} {Qm : Flow → Shared → Prop} {E : Value → Shared → Prop}
    (hE : EnvS env (recAt 24).scope.names) (hA : Room A 8) (hS : St c0 X env (upd noSig "script" (.lst (ns.map .int))) s.heap) (hn : ns.length ≤ 63)
    (h : ∀ h' tk, (∀ b o, b ≠ env.locals → s.heap.get? b = some o → h'.get? b = some o) → Qm (.ret (.bool true)) { s with heap := h', toks := tk }) :
    wpAny (model c0.prog c0.w) A (execs (recAt 24).body env) Qm E s := by
  obtain ⟨a, p1, p2, p3, p4, p5, r, hbody⟩ := law_shape
  have hnd : noDebug (recAt 24).scope.names = true := by decide
  have ph := law_head (c := c0) hp (.lst (ns.map .int))
  have e1 : headOf (recAt 24).body = [a] := by rw [hbody]; rfl
  have e2 : tailOf (recAt 24).body = r := by rw [hbody]; rfl
  rw [e1] at ph
  rw [hbody]
  have W := Wn_ok c0 8 60
  refine wpAny_execs_cons (W.ex _ hnd _ _ _ _ (exL_split ph) X A env _ _ E hE hA hS (fun σ1 h2 tk2 S2 x2 q2 => ?_) fun σ1 v1 d1 h2 tk2 S2 x2 r2 q2 => q2.elim)
  have q2' : σ1 = upd noSig "script" (.lst (ns.map .int)) := q2
  subst q2'
  obtain ⟨ap, op, fdp, hm, ho, hdp⟩ := c0.known "_law_pool" (by decide)
  have lk1 : (recAt 24).scope.names.lookup (Str.ofString "script") = some .local := by decide
  have lk2 : (recAt 24).scope.names.lookup (Str.ofString "source") = some .local := by decide
  have lk3 : (recAt 24).scope.names.lookup (Str.ofString "_law_pool") = some .globalImplicit := by decide
  have hargs : EvalsOk c0 8 (recAt 24).scope.names (upd noSig "script" (.lst (ns.map .int))) [.Name "script" p3] (fun ds => ds = [.lst (ns.map .int)]) :=
    .cons (by intro x p e; cases e) (.name (.inl lk1) rfl (by decide) (.nil rfl))
  refine wpAny_execs_cons (wpAny_Assign_Name (wpAny_Call_Name_kw (name_global hE S2 lk3 hm (by decide) ?_)) (swaps_plain rfl))
  show wpAny _ A (callWith p4 (.ref ap) [] (backTo p4 (starEach [.Name "script" p3] env)) []) _ _ _
  refine Calls.callWith_function (o := op) (fd := fdp) ?_
  have hsp : backTo p4 (starEach [.Name "script" p3] env) = (false, eval (.Name "script" p3) env) :: backTo p4 (starEach [] env) := by rw [starEach_plain (by intro x p e; cases e)]; rfl
  rw [hsp]
  refine Calls.evalArgs_plain ?_
  rw [← hsp]
  refine hargs X A env _ p4 _ E hE hA S2 fun vs ds h3 tk3 S3 x3 r3 q3 => ⟨⟨S3.keep _ _ ho, hdp⟩, ?_⟩
  subst q3
  obtain ⟨v, vs', rfl, ra, r4⟩ := r3.inv_cons
  obtain rfl := r4.inv_nil
  refine pool_call hp hs hm (hA.le (by decide)) S3.toBase ra hn fun b h4 tk4 B4 k4 hb hsrc => ?_
  obtain ⟨m, hns, _⟩ := S3.loc
  have hns4 := hns.keeps k4
  refine wpAny_storeName_local ((hE.kindOf _).trans lk2) hns4 (fun h5 hns5 sb => ?_) (envS_plain hE)
  have hbL : b ≠ env.locals := fun q => by
    obtain ⟨oL, _, _, e, _⟩ := hns
    rw [← q, hb] at e; cases e
  have keepL : ∀ d o, d ≠ env.locals → h4.get? d = some o → h5.get? d = some o := fun d o hd e => (sb.2 d hd).trans e
  have hb0 : c0.h₀.get? b = Option.none := by
    cases e : c0.h₀.get? b with
    | none => rfl
    | some o => have := S3.keep _ _ e; rw [hb] at this; cases this
  have hsrc5 : SrcAt h5 b := by
    obtain ⟨n, m, t, u, ⟨o, ho, hr⟩, h3⟩ := hsrc
    exact ⟨n, m, t, u, ⟨o, keepL b o hbL ho, hr⟩, h3⟩
  let c1 : Cx := { c0 with src := some b }
  have S5 : St c1 (fun x => x = b) env (upd noSig "source" .src) h5 :=
    { keep := fun d o e => keepL d o (fun q => by rw [q] at e; have := S3.fresh; rw [this] at e; cases e) (B4.keep d o e)
      src := fun d e => by
        injection e with e
        subst e
        exact ⟨hb0, rfl, hsrc5⟩
      live := fun d e => by
        obtain ⟨_, _, _, _, ⟨o, ho, _⟩, _⟩ := hsrc5
        exact ⟨o, by rw [e]; exact ho⟩
      fresh := S3.fresh
      loc := ⟨_, hns5, fun x d hx hd => by
        simp only [upd, noSig] at hd
        split at hd
        · rename_i hxs
          cases hd
          exact ⟨.ref b, by simp [hxs], .src rfl⟩
        · cases hd⟩
      cel := fun x d hx hd => by
        simp only [upd, noSig] at hd
        split at hd
        · rename_i hxs
          rw [hxs, hE.kindOf, lk2] at hx
          cases hx
        · cases hd }
  have pt := law_tail (c := c1) hp
  rw [e2] at pt
  have old : ∀ d o, d ≠ env.locals → s.heap.get? d = some o → h3.get? d = some o := fun d o hd e => x3 d o (x2 d o e (by rw [hs]; intro q; cases q) hd) (by rw [hs]; intro q; cases q) hd
  exact exL_ok (Wn_ok c1 8 60) hnd pt (fun x => x = b) A env _ _ E hE hA S5 (fun _ _ _ _ _ q => q.elim) fun σ' v d h6 tk6 S6 x6 r6 q6 => by
    subst q6
    cases r6 with
    | bool _ =>
    exact h h6 tk6 fun d o hd e => x6 d o (keepL d o hd (k4 d o (old d o hd e))) (fun q => by
      injection q with q
      subst q
      have := old _ _ hd e
      rw [hb] at this; cases this) hd
end
end Mine
namespace Mine
set_option maxRecDepth 100000

theorem ints_repL {src : Option Addr} {X : Addr → Prop} {h : Heap} : ∀ {vs : List Value} {ns : List Int}, IntsAre vs ns → RepL src X h vs (ns.map .int)
  | _, _, .nil => .nil
  | _, _, .cons n t r => .cons (.int n t) (ints_repL r)
theorem ints_rep {src : Option Addr} {X : Addr → Prop} {h : Heap} {a : Addr} {vs : List Value} {ns : List Int} (hx : ¬ X a) (hl : h.IsList a vs.toArray) (hi : IntsAre vs ns) : Rep src X h (.ref a) (.lst (ns.map .int)) :=
  have r := ints_repL (src := src) (X := X) (h := h) hi
  .lst hx hl r.1 r.2

theorem fresh_names : ∀ x, x ∈ (["len", "str", "isinstance", "tuple", "range", "bool"] : List Str) → x ∉ startupNames ∧ x ∉ looseW V [] ∧ x ∉ (recsOf V).map (·.name) ∧ x ∉ (litsOf V).map (·.1) ∧ x ∉ (clssOf V (looseW V [])).map (·.name) := by
  decide +kernel
theorem known_names : ∀ f, f ∈ defNames → ∃ k, k < 25 ∧ (recAt k).name = f := by
  intro f hf
  simp only [defNames, List.mem_cons, List.not_mem_nil, or_false] at hf
  rcases hf with rfl | rfl | rfl | rfl | rfl | rfl | rfl | rfl | rfl | rfl | rfl | rfl | rfl | rfl | rfl | rfl | rfl | rfl | rfl | rfl | rfl | rfl | rfl | rfl
  · exact ⟨13, by decide, by rfl⟩
  · exact ⟨14, by decide, by rfl⟩
  · exact ⟨15, by decide, by rfl⟩
  · exact ⟨16, by decide, by rfl⟩
  · exact ⟨18, by decide, by rfl⟩
  · exact ⟨17, by decide, by rfl⟩
  · exact ⟨2, by decide, by rfl⟩
  · exact ⟨3, by decide, by rfl⟩
  · exact ⟨5, by decide, by rfl⟩
  · exact ⟨6, by decide, by rfl⟩
  · exact ⟨4, by decide, by rfl⟩
  · exact ⟨10, by decide, by rfl⟩
  · exact ⟨1, by decide, by rfl⟩
  · exact ⟨0, by decide, by rfl⟩
  · exact ⟨19, by decide, by rfl⟩
  · exact ⟨20, by decide, by rfl⟩
  · exact ⟨21, by decide, by rfl⟩
  · exact ⟨22, by decide, by rfl⟩
  · exact ⟨23, by decide, by rfl⟩
  · exact ⟨7, by decide, by rfl⟩
  · exact ⟨8, by decide, by rfl⟩
  · exact ⟨9, by decide, by rfl⟩
  · exact ⟨11, by decide, by rfl⟩
  · exact ⟨12, by decide, by rfl⟩

theorem room_law : Room callerA 9 := ⟨rfl, by show 1 + claimMargin + 9 < recursionLimit; decide, by show 4 + 8 * 9 < cLine; decide⟩

/-- the context of a run -/
noncomputable def lawCx (prog : Program) (w : World) {mean : ExcName → Option Value} {mg mb : Str → Option Value} {h : Heap} (T : Top V (looseW V []) mean mg mb h) : Cx where
  prog := prog
  w := w
  p := V
  loose := looseW V []
  mean := mean
  mg := mg
  mb := mb
  h₀ := h
  top := T
  free := fun x hx => by
    obtain ⟨h1, h2, h3, h4, h5⟩ := fresh_names x hx
    exact T.free x h1 h2 h3 h4 h5
  known := fun f hf => by
    obtain ⟨k, hk, rfl⟩ := known_names f hf
    obtain ⟨a, o, pm, code, doc, h1, h2, h3, _⟩ := T.fn _ (rec_mem rfl hk)
    exact ⟨a, o, _, h1, h2, h3⟩
  src := Option.none


theorem law_named : (recAt 24).name = "law" := by rfl

/-- the call of law from outside -/
theorem law_call {prog : Program} {w : World} {mean : ExcName → Option Value} {mg mb : Str → Option Value} {s₁ : Shared} (T : Top V (looseW V []) mean mg mb s₁.heap)
    {vs : List Value} {ns : List Int} {a fa : Addr} {Qm : Value → Shared → Prop} {E : Value → Shared → Prop} (hmg : mg "law" = some (.ref fa)) (hI : IntsAre vs ns) (hL : s₁.heap.IsList a vs.toArray) (hn : ns.length ≤ 63)
    (h : ∀ h' tk, (∀ b o, s₁.heap.get? b = some o → h'.get? b = some o) → Qm (.bool true) { s₁ with heap := h', toks := tk }) :
    wpAny (model prog w) callerA (call (.ref fa) [.ref a]) Qm E s₁ := by
  have B : Base (lawCx prog w T) (fun _ => False) s₁.heap := ⟨fun _ _ e => e, fun a e => (by cases e), fun a e => e.elim⟩
  refine def_open (c := lawCx prog w T) (n := 8) (d := recAt 24) (xs := ["script"]) (ds := [.lst (ns.map .int)]) (rec_mem rfl (by decide)) rfl (fun pm code doc vs hv => ?_) (fun y hy => ?_) (fun y hy => ?_) rfl rfl rfl (a' := fa) hmg room_law B
    (.cons (ints_rep (fun q => q) hL hI) .nil) (fun A' env h1 tk E' hE hA' S hk1 hloc => ?_)
  · obtain ⟨v, rfl⟩ := List.length_eq_one_iff.mp hv
    rfl
  · have : ((recAt 24).scope.names.all fun x => decide (x.2 ≠ .cell)) = true := by decide
    have := List.all_eq_true.mp this y hy
    simpa using this
  · obtain rfl := List.mem_singleton.mp hy
    rfl
  refine law_run (c0 := lawCx prog w T) rfl rfl (ns := ns) hE hA' S hn fun h' tk' hk' => ?_
  exact h h' tk' fun b o e => hk' b o (fun q => by rw [q, hloc] at e; cases e) (hk1 b o e)
end Mine
set_option maxRecDepth 100000 in
set_option maxHeartbeats 8000000 in
theorem PySem.Challenge.cw_xm0587_01_holds : PySem.Challenge.rw_xm0587_01.Holds := by
  w_on
  o_law
  o_head Hook.none
  (case hw => w_witness2)
  intro w s₀ s₁ mg mb G Y fa o pm cd dc dV kV ho hd hcd hD hmg hg args vals as hpre hlay hrd hwl hlo
  refine Ground.open G ?_
  intro T B D TE TW
  wrow_args hpre hlay hrd hwl hlo
  rename IntsAre _ _ => hI
  rename Heap.IsList _ _ _ => hL
  rename (¬ _) => hcond
  have T' : Top Mine.V (looseW Mine.V []) (ExcName.means s₀.heap) mg mb s₁.heap := T
  refine Mine.law_call T' hmg hI hL (by omega) fun h' tk hk => GoodW.toG ⟨.inl ⟨.bool true, .bool true, [], rfl, raisesW_false ?_, .bool true, ?_, unshared_nil⟩, hk, rfl, hg⟩
  · wrow_none_raised
  · refine postW_of (by wrow_shape) (by wtm_val) ?_
    w_fin
