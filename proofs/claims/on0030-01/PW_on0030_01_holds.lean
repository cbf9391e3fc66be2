import PyProof.Rows.All
import Wide.All
import OpenK.AllK
import Wide.FinOn
import Lean
import PySem.Challenge.RW_on0030_01
open PySem PySem.W PyProof.Rows PySem.Spec PySem.Calls
set_option Elab.async false
set_option maxRecDepth 100000
set_option maxHeartbeats 8000000
namespace Mine
/-! The caller's thread behind a gate that looks at the stack: what is told of clean contexts alone suffices at the bottom. -/
noncomputable def atBottom (l : List (Code × Pos)) : Bool := match l with
  | [(.builtin id _, _)] => id == "claim.caller"
  | _ => false
noncomputable def gate {α : Type} (t : Sem α) (d : α) : Sem α := do if atBottom (← stack) then t else pure d

theorem wp_gate {α : Type} {M : Model} {Γ : PySem.Ctx} {t : Sem α} {d : α} {Q : α → Pos → Shared → Prop} {E : Value → Pos → Shared → Prop} {p : Pos} {s : Shared} :
    Sem.wp M Γ (gate t d) Q E p s = if atBottom ((Γ.code, p) :: Γ.below) = true then Sem.wp M Γ t Q E p s else Q d p s := by
  unfold gate
  show Sem.wp M Γ (Sem.bind (.stack .pure) _) Q E p s = _
  simp only [Sem.bind, Sem.wp_stack]
  split
  · rfl
  · rfl
theorem atBottom_gone {Γ : PySem.Ctx} {p : Pos} (q : Pos) (h : atBottom ((Γ.code, p) :: Γ.below) = true) : atBottom ((Γ.code, q) :: Γ.below) = true := by
  unfold atBottom at h ⊢
  cases hb : Γ.below with
  | nil =>
    rw [hb] at h
    cases hc : Γ.code <;> rw [hc] at h <;> first | exact h | cases h
  | cons x l =>
    rw [hb] at h
    exfalso
    cases hc : Γ.code <;> rw [hc] at h <;> exact Bool.noConfusion (h : false = true)
theorem ungate {prog : Program} {w : World} {s s' : Shared} {t : Sem Fin} {d : Fin} {n : Nat} {o : Outcome} (hz : s.asleep) (h : schedN (denote table) prog w n (.single s ⟨gate t d, .builtin "claim.caller" {}, default, []⟩) = .halted o s') :
    ∃ n', schedN (denote table) prog w n' (.single s ⟨t, .builtin "claim.caller" {}, default, []⟩) = .halted o s' := by
  cases n with
  | zero => cases h
  | succ n =>
    refine ⟨n, ?_⟩
    have hs : step (denote table) prog w s ⟨gate t d, .builtin "claim.caller" {}, default, []⟩ = .go s ⟨t, .builtin "claim.caller" {}, default, []⟩ := rfl
    have hc : Thread.calm ⟨gate t d, .builtin "claim.caller" {}, default, []⟩ = true := by
      rfl
    rcases sstep_single (denote table) prog w s _ hc hz with e | e
    · simp only [schedN, e, hs, Step.lift] at h
      exact h
    · rw [hs] at e
      cases e

theorem holds_gate {r : OpenRow} {q : Program} {loose : List Str} {Xt : Shared → Bool} {XP : (Str → Option Value) → Heap → Prop} {α : Type} {Yf : Shared → α} {Ya : World → α} {YP : World → Heap → Prop} {d : DefRec} {kwd : List (Str × PySem.Expr)} {N : Nat}
    (left : LeftO r.prog q loose Xt Yf Ya N) (hY : ∀ w s, Yf s = Ya w → YP w s.heap) (hYk : ∀ w h h', YP w h → (∀ b o, h.get? b = some o → h'.get? b = some o) → YP w h')
    (hX : ∀ s, Xt s = true → XP (s.heap.nsMap mainGlobals) s.heap) (hXk : ∀ mg h h', XP mg h → (∀ b o, h.get? b = some o → h'.get? b = some o) → XP mg h')
    (hdef : defOf q r.name = some (d, kwd)) (hp : r.prog.theDef r.name = some (d.params, d.body, d.scope)) (hk : kwWritten? d.params.kwonlyargs d.params.kw_defaults = some kwd) (hRf : ∀ s, Xt s = true → RecFacts r.records s.heap) (hwr : (!r.writes || r.records.isEmpty) = true)
    (k1 : r.wellSaid = true) (ok : (chainsOk q && opensWell r.prog && (frees r.toRowW && r.within.isEmpty)) = true) (hb : r.prog.bare) (hw : r.toRowW.promised)
    (call : WalkO q loose XP YP r.toRowW d kwd fun f vs => gate (PySem.call f vs) (.bool true)) : r.Holds := by
  have H := open_anyG (r := r.toRowW) (run := fun f vs => gate (PySem.call f vs) (.bool true)) (tree := fun vs => gate (do match ← nsGet mainNs r.name with
      | some f => do ret (← PySem.call f vs)
      | none => unsupported "claim.caller:no-such-global") (.done (.ret (.bool true)))) (defs := if r.pinned then [r.name] else []) (kps := r.keeps) (writes := r.writes) left hY hYk hX hXk hRf hwr ok hb hw
    (fun vs w s mg f Q E hg hf h Γ p hΓ => by
      have h' := h Γ p hΓ
      rw [wp_gate] at h' ⊢
      split at h'
      · rename_i hb
        rw [if_pos hb, Sem.wp_bind']
        refine Sem.wp_mono _ Γ _ (fun r' p' s' z => ?_) (fun _ _ _ z => z) _ _ (wpAny_nsGet (M := model _ w) (A := callerA) (E := E) (Q := fun r' s' => r' = some f ∧ s' = s) hg ⟨hf, rfl⟩ Γ p hΓ)
        obtain ⟨rfl, rfl⟩ := z
        have h2 := h Γ p' hΓ
        rw [wp_gate, if_pos (atBottom_gone p' hb)] at h2
        show Sem.wp _ Γ (PySem.call f vs >>= fun v => ret v) _ _ _ _
        rw [Sem.wp_bind']
        exact h2
      · rename_i hb
        rw [if_neg hb]
        exact h')
    (fun w s hg G n hn => by
      obtain rfl : n = r.name := by split at hn <;> simp_all
      exact pinned_of_view hg G hdef hp hk)
    fun w s₀ s₁ mg mb G Y args vs as hpre hlay L low => by
      obtain ⟨a, o, pm, cd, doc, dV, kV, h1, h2, h3, h4, h5⟩ := G.fn hdef
      exact ⟨.ref a, h1, call w s₀ s₁ mg mb G Y a o pm cd doc dV kV h2 h3 h4 h5 (defOf_name hdef ▸ h1) L.gens args vs as hpre hlay L.reads L.well (L.low low)⟩
  obtain ⟨hbare, hwit, hrun⟩ := H
  refine ⟨k1, hw, hbare, hwit, fun w => ⟨(hrun w).1, fun s hs => ?_⟩⟩
  obtain ⟨s₀, hf, hg0, s₁, hT, h1, h2, h3, hcf⟩ := (hrun w).2 s hs
  refine ⟨s₀, hf, hg0, s₁, hT, h1, h2, h3, fun args hpre hlay ord hord => ?_⟩
  obtain ⟨vs, s₂, hl, n, oc, s', hsch, rest⟩ := hcf args hpre hlay ord hord
  have hs' : AfterImport (opening r.prog) w s := hs
  have hz : s₂.asleep := Shared.asleep_of_life ((layAllW_rest _ _ _ hl).2.2.2.trans (hT.2.1.trans (fence_lifeW hf))) hs'.life
  obtain ⟨n', hn'⟩ := ungate hz hsch
  exact ⟨vs, s₂, hl, n', oc, s', hn', rest⟩
end Mine -- closed for one theorem
theorem Mine.PySem.W.holds_open {r : OpenRow} {q : Program} {loose : List Str} {Xt : Shared → Bool} {XP : (Str → Option Value) → Heap → Prop} {α : Type} {Yf : Shared → α} {Ya : World → α} {YP : World → Heap → Prop} {d : DefRec} {kwd : List (Str × PySem.Expr)} {N : Nat}
    (left : LeftO r.prog q loose Xt Yf Ya N) (hY : ∀ w s, Yf s = Ya w → YP w s.heap) (hYk : ∀ w h h', YP w h → (∀ b o, h.get? b = some o → h'.get? b = some o) → YP w h')
    (hX : ∀ s, Xt s = true → XP (s.heap.nsMap mainGlobals) s.heap) (hXk : ∀ mg h h', XP mg h → (∀ b o, h.get? b = some o → h'.get? b = some o) → XP mg h')
    (hdef : defOf q r.name = some (d, kwd)) (hp : r.prog.theDef r.name = some (d.params, d.body, d.scope)) (hk : kwWritten? d.params.kwonlyargs d.params.kw_defaults = some kwd) (hRf : ∀ s, Xt s = true → RecFacts r.records s.heap) (hwr : (!r.writes || r.records.isEmpty) = true)
    (k1 : r.wellSaid = true) (ok : (chainsOk q && opensWell r.prog && (frees r.toRowW && r.within.isEmpty)) = true) (hb : r.prog.bare) (hw : r.toRowW.promised)
    (call : WalkO q loose XP YP r.toRowW d kwd fun f vs => Mine.gate (PySem.call f vs) (.bool true)) : r.Holds :=
  Mine.holds_gate left hY hYk hX hXk hdef hp hk hRf hwr k1 ok hb hw call
namespace Mine -- opened again
section
local macro_rules | `(tactic| o_head $_) => `(tactic| assumption)
theorem fr (h : PySem.Challenge.rw_on0030_01.row.Holds) : PySem.Challenge.rw_on0030_01.row.Holds := by k_head
end
noncomputable def view : Program := let p := PySem.Challenge.rw_on0030_01.row.prog; { p with main := { p.main with body := ((((p.main.body.eraseIdx 50).eraseIdx 18).eraseIdx 10).eraseIdx 6).eraseIdx 1 } }
theorem fill_all (w : World) : (Mine.fr.heap_1 w.params).In default → PySem.Challenge.rw_on0030_01.Holds → True := by
  k_fill
  intro _ _; trivial
noncomputable abbrev LO : List Str := looseW Mine.view [Str.ofString "ChanError", Str.ofString "NAME_BEGINS", Str.ofString "NAME_SIGNS", Str.ofString "PREFIX_BASES", Str.ofString "SHORT_ESCAPES", Str.ofString "LONG_ESCAPES"]
noncomputable abbrev PRG : Program := PySem.Challenge.rw_on0030_01.row.prog
noncomputable abbrev Ledger := List (Addr × Obj)
noncomputable abbrev Ok := Value → Ledger → Prop
noncomputable abbrev NoE : Value → Shared → Prop := fun _ _ => False

theorem dlt {a b c L : Nat} (h : a + b < L) (e : Nat.ble c b = true) : a + c < L := by
  have := Nat.le_of_ble_eq_true e
  omega
theorem ult {a b c L : Nat} (h : a + 8 * b < L) (e : Nat.ble c b = true) : a + 8 * c < L := by
  have := Nat.le_of_ble_eq_true e
  omega
/-- What a call of the def at f with vs does, from any caller's frame. -/
noncomputable def Fn (w : World) (f : Addr) (vs : List Value) (news : Ledger) (D : Nat) (R : Ok → Prop) : Prop :=
  ∀ (mean : ExcName → Option Value) (mg mb : Str → Option Value) (dp un : Nat) (gd : Option (List Code)) (cn : Str) (cs : Scope) (a : Addr) (ccd : Value) (cl : List (Str × Addr)) (outer : List Env) (A₀ : Around) (base h₀ : Heap) (L : Addr) (m : Str → Option Value) (s : Shared) (Q : Value → Shared → Prop),
    Below A₀ base outer h₀ → Fr h₀ L s.heap m → (Mine.fr.heap_1 w.params).In h₀ → News h₀ L s.heap news → Top Mine.view LO mean mg mb h₀ → cs.kind = .function →
    dp + D < recursionLimit → un + 8 * D < cLine →
    R (fun v news' => ∀ h' tk', Fr h₀ L h' m → News h₀ L h' news' → Q v { s with heap := h', toks := tk' }) →
    wpAny (model PRG w) (ktrTop dp un gd cn cs L a ccd cl outer) (call (.ref f) vs) Q NoE s

/-- The same of a def's body in its own frame (no cells). -/
noncomputable def Bd (w : World) (qual : Str) (scope : Scope) (f : Addr) (cdv : Value) (body : List Stmt) (m : Str → Option Value) (news : Ledger) (D : Nat) (R : Ok → Prop) : Prop :=
  ∀ (mean : ExcName → Option Value) (mg mb : Str → Option Value) (dp un : Nat) (gd : Option (List Code)) (outer : List Env) (A₀ : Around) (base g : Heap) (L : Addr) (s : Shared) (Q : Flow → Shared → Prop),
    Below A₀ base outer g → Fr g L s.heap m → (Mine.fr.heap_1 w.params).In g → News g L s.heap news → Top Mine.view LO mean mg mb g →
    dp + D < recursionLimit → un + 8 * D < cLine →
    R (fun v news' => ∀ h' tk' m', Fr g L h' m' → News g L h' news' → Q (.ret v) { s with heap := h', toks := tk' }) →
    wpAny (model PRG w) (ktrTop dp un gd qual scope L f cdv [] outer) (execs body (envOf qual scope L f cdv)) Q NoE s

theorem fn_of_body {w : World} {name qual : Str} {params : Arguments} {body : List Stmt} {scope : Scope} {dV kV doc pm cdv ct oc : Value} {an od : Option Addr} {osl : Array (Option Value)} {f : Addr} {vs : List Value} {binds : List (Str × Value)} {news : Ledger} {D : Nat} {R : Ok → Prop}
    (ho : (Mine.fr.heap_1 w.params).lookup f = some ⟨oc, od, .func (fnOf name qual params body scope dV kV doc pm an cdv ct), osl⟩) (hcd : codeIn (Mine.fr.heap_1 w.params) cdv qual = true)
    (hbind : bindArgs (fnOf name qual params body scope dV kV doc pm an cdv ct) ⟨vs, []⟩ = pure binds) (hloc : (binds.all fun x => decide (scope.names.lookup x.1 = some .local)) = true)
    (hcell : ∀ x ∈ scope.names, x.2 ≠ .cell)
    (hR : ∀ ok ok' : Ok, (∀ v n, ok v n → ok' v n) → R ok → R ok')
    (h : Bd w qual scope f cdv body (fun y => binds.reverse.lookup y) news D R)
    (hco : scope.isCoroutine = false := by rfl) (hgen : scope.isGenerator = false := by rfl) (hk : scope.kind = .function := by rfl)  : Fn w f vs news (D + 1) R := by
  intro mean mg mb dp un gd cn cs a ccd cl outer A₀ base h₀ L m s Q B F X N T hks hd hu hret
  refine wpAny_call ?_
  refine code_def B F X N T rfl rfl hks ho hcd (by show dp < recursionLimit; omega) (BindsTo.of_eq hbind) (locs hloc) ?_ hco hgen hk hcell
  intro g L' h₁ FG F' N' B' X' T'
  refine wpAny_mono (h mean mg mb (dp + 1) (un + 3) gd (envX cn cs L a ccd cl :: outer) _ base g L' _ (fun fl s' => LeaveK h₀ L m g (fun r s' => match r with | .ok (.ret v) => Q v s' | .ok _ => False | .error e => NoE e s') (match fl with | .ret v => v | _ => .none) s') B' F' X' N' T' (by omega) (by omega) ?_) (fun _ _ x => x) (fun _ _ x => x.elim)
  refine hR _ _ ?_ hret
  intro v n hok h' tk' m' F2 N2
  exact leaveK_ F2 N2 fun F3 N3 => hok h' tk' F3 N3
section
variable {prog : Program} {w : World} {A : Around} {E : Value → Shared → Prop} {s : Shared} {Q : Value → Shared → Prop} {a b : Int} {t u : Tok} {x y : Str}
theorem lt_t (h : a < b) (q : Q (.bool true) s) : wpAny (model prog w) A (compareOp .Lt (.int a t) (.int b u)) Q E s := lt_int (by rw [decide_eq_true h]; exact q)
theorem lt_f (h : b ≤ a) (q : Q (.bool false) s) : wpAny (model prog w) A (compareOp .Lt (.int a t) (.int b u)) Q E s := lt_int (by rw [decide_eq_false (by omega)]; exact q)
theorem le_t (h : a ≤ b) (q : Q (.bool true) s) : wpAny (model prog w) A (compareOp .LtE (.int a t) (.int b u)) Q E s := le_int (by rw [decide_eq_true h]; exact q)
theorem le_f (h : b < a) (q : Q (.bool false) s) : wpAny (model prog w) A (compareOp .LtE (.int a t) (.int b u)) Q E s := le_int (by rw [decide_eq_false (by omega)]; exact q)
theorem gt_t (h : b < a) (q : Q (.bool true) s) : wpAny (model prog w) A (compareOp .Gt (.int a t) (.int b u)) Q E s := gt_int (by rw [decide_eq_true (by omega)]; exact q)
theorem gt_f (h : a ≤ b) (q : Q (.bool false) s) : wpAny (model prog w) A (compareOp .Gt (.int a t) (.int b u)) Q E s := gt_int (by rw [decide_eq_false (by omega)]; exact q)
theorem ge_t (h : b ≤ a) (q : Q (.bool true) s) : wpAny (model prog w) A (compareOp .GtE (.int a t) (.int b u)) Q E s := ge_int (by rw [decide_eq_true (by omega)]; exact q)
theorem ge_f (h : a < b) (q : Q (.bool false) s) : wpAny (model prog w) A (compareOp .GtE (.int a t) (.int b u)) Q E s := ge_int (by rw [decide_eq_false (by omega)]; exact q)
theorem eq_t (h : a = b) (q : Q (.bool true) s) : wpAny (model prog w) A (compareOp .Eq (.int a t) (.int b u)) Q E s := eq_int (by rw [beq_iff_eq.mpr h]; exact q)
theorem eq_f (h : a ≠ b) (q : Q (.bool false) s) : wpAny (model prog w) A (compareOp .Eq (.int a t) (.int b u)) Q E s := eq_int (by rw [beq_eq_false_iff_ne.mpr h]; exact q)

/-- Facts that the walk looks up by assumption. -/
noncomputable def Eqs (x y : Str) (c : Bool) : Prop := (x == y) = c
noncomputable def Ins (x y : Str) (c : Bool) : Prop := (!(Builtin.Str.occurrences y x 0 y.length 1).isEmpty) = c
theorem eqs (c : Bool) (h : Eqs x y c) (q : Q (.bool c) s) : wpAny (model prog w) A (compareOp .Eq (.str x t) (.str y u)) Q E s := eq_str (by rw [show (x == y) = c from h]; exact q)
theorem nes (c : Bool) (h : Eqs x y c) (q : Q (.bool !c) s) : wpAny (model prog w) A (compareOp .NotEq (.str x t) (.str y u)) Q E s := ne_str (by rw [bne, show (x == y) = c from h]; exact q)
theorem ins (c : Bool) (h : Ins x y c) (q : Q (.bool c) s) : wpAny (model prog w) A (compareOp .In (.str x t) (.str y u)) Q E s := in_str (by rw [show (!(Builtin.Str.occurrences y x 0 y.length 1).isEmpty) = c from h]; exact q)
theorem nins (c : Bool) (h : Ins x y c) (q : Q (.bool !c) s) : wpAny (model prog w) A (compareOp .NotIn (.str x t) (.str y u)) Q E s := notIn_str (by rw [show (!(Builtin.Str.occurrences y x 0 y.length 1).isEmpty) = c from h]; exact q)

/-- The sign at place i of x is y (one sign). -/
noncomputable def Itm (x : Str) (i : Int) (y : Str) : Prop := 0 ≤ i ∧ i < x.length ∧ Txt.item x i = y
theorem itm {value slice : Expr} {i : Int} (hz : x.length ≤ 100000) (h : Itm x i y) (q : Q (.str y s.toks) { s with toks := s.toks + 1 })
    (hs : subscripted slice false (.str x t) (.int i u) = operate [.str x t, .int i u] (getItem (.str x t) (.int i u)) := by with_unfolding_all rfl)
    (hl : ∀ r : Value, letTemporaryGo value (.str x t) r = pure () := by intro _; with_unfolding_all rfl) :
    wpAny (model prog w) A (subscriptTail value slice (.str x t) (.int i u)) Q E s :=
  item_str (by obtain ⟨h0, h1, _⟩ := h; unfold PySem.fitsSsize; simp only [Bool.not_eq_true', Bool.or_eq_false_iff, decide_eq_false_iff_not]; omega) (by obtain ⟨h0, h1, _⟩ := h; omega) h.2.1 (fun _ => by rw [h.2.2]; exact q) hs hl
/-- The same counted from the end. -/
noncomputable def Itn (x : Str) (i : Int) (y : Str) : Prop := -(x.length : Int) ≤ i ∧ i < 0 ∧ Txt.item x i = y
theorem itn {value slice : Expr} {i : Int} (hz : x.length ≤ 100000) (h : Itn x i y) (q : Q (.str y s.toks) { s with toks := s.toks + 1 })
    (hs : subscripted slice false (.str x t) (.int i u) = operate [.str x t, .int i u] (getItem (.str x t) (.int i u)) := by with_unfolding_all rfl)
    (hl : ∀ r : Value, letTemporaryGo value (.str x t) r = pure () := by intro _; with_unfolding_all rfl) :
    wpAny (model prog w) A (subscriptTail value slice (.str x t) (.int i u)) Q E s :=
  item_str (by obtain ⟨h0, h1, _⟩ := h; unfold PySem.fitsSsize; simp only [Bool.not_eq_true', Bool.or_eq_false_iff, decide_eq_false_iff_not]; omega) h.1 (by obtain ⟨h0, h1, _⟩ := h; omega) (fun _ => by rw [h.2.2]; exact q) hs hl
end

section
variable {prog : Program} {w : World} {A : Around} {E : Value → Shared → Prop} {s : Shared} {Q : Value → Shared → Prop} {h₀ : Heap} {L d : Addr} {m : Str → Option Value} {D : List (PySem.PyData × PySem.PyData)} {x : Str} {t : Tok} {n : Int}
noncomputable def LookI (x : Str) (D : List (PySem.PyData × PySem.PyData)) (n : Option Int) : Prop := Spec.lookup (.str x) D = n.map .int
theorem get_int (T : StrTab prog w h₀ d D) (F : Fr h₀ L s.heap m) (hl : LookI x D (some n)) (h : ∀ u, Q (.int n u) { s with toks := s.toks + 1 }) : wpAny (model prog w) A (call (.builtin "dict.get") [.ref d, .str x t]) Q E s :=
  call_get1_strTab (T.ofFr F) fun v hv => by
    rw [show Spec.lookup (.str x) D = some (.int n) from hl] at hv
    obtain ⟨u, rfl⟩ : ∃ u, v = .int n u := by
      have := hv s.heap
      simp only [Option.getD_some] at this
      cases this
      exact ⟨_, rfl⟩
    exact h u
theorem get_none (T : StrTab prog w h₀ d D) (F : Fr h₀ L s.heap m) (hl : LookI x D none) (h : Q .none { s with toks := s.toks + 1 }) : wpAny (model prog w) A (call (.builtin "dict.get") [.ref d, .str x t]) Q E s :=
  call_get1_strTab (T.ofFr F) fun v hv => by
    rw [show Spec.lookup (.str x) D = none from hl] at hv
    obtain rfl : v = .none := by
      have := hv s.heap
      simp only [Option.getD_none] at this
      cases this
      rfl
    exact h
end

section
variable {M : Model} {A : Around} {E : Value → Shared → Prop} {s : Shared} {env : Env} {pos : Pos} {id : String} {first : List Value} {e : Expr} {rest : List Expr} {Q : Value → Shared → Prop}
theorem cw_m (h : wpAny M A (spliced (backTo pos (starEach (e :: rest) env))) (fun vs s₁ => wpAny M A (call (.builtin id) (first ++ vs)) Q E s₁) E s)
    (he : starEach (e :: rest) env = (false, eval e env) :: starEach rest env := by with_unfolding_all rfl) (hplain : (backTo pos (starEach rest env)).any (·.1) = false := by with_unfolding_all rfl) :
    wpAny M A (callWith pos (.builtin id) first (backTo pos (starEach (e :: rest) env)) []) Q E s := callWith_method1 h he hplain
theorem cw_b (h : wpAny M A (spliced (backTo pos (starEach (e :: rest) env))) (fun vs s₁ => wpAny M A (call (.builtin id) vs) Q E s₁) E s)
    (he : starEach (e :: rest) env = (false, eval e env) :: starEach rest env := by with_unfolding_all rfl) (hplain : (backTo pos (starEach rest env)).any (·.1) = false := by with_unfolding_all rfl) :
    wpAny M A (callWith pos (.builtin id) [] (backTo pos (starEach (e :: rest) env)) []) Q E s := callWith_method1 (first := []) (by simpa using h) he hplain
end
theorem ite_t {P R : Prop} (h : P) : if true = true then P else R := h
theorem ite_f {P R : Prop} (h : R) : if false = true then P else R := h
theorem ite_t' {b : Bool} {P R : Prop} (e : b = true) (h : P) : if b = true then P else R := by rw [if_pos e]; exact h
theorem ite_f' {b : Bool} {P R : Prop} (e : b = false) (h : R) : if b = true then P else R := by rw [if_neg (by rw [e]; decide)]; exact h
theorem upd_same {m : Str → Option Value} {x : Str} {v : Value} (h : m x = some v) : (fun y => if y = x then some v else m y) = m := by
  funext y
  by_cases e : y = x
  · subst e; simp [h]
  · simp [e]
theorem upd_opt {m : Str → Option Value} {x : Str} {v : Option Value} (h : m x = v) : m = fun y => if y = x then v else m y := by
  funext y
  by_cases e : y = x
  · subst e; simp [h]
  · simp [e]
theorem upd_upd {m : Str → Option Value} {x : Str} {v v' : Value} : (fun y => if y = x then some v' else if y = x then some v else m y) = fun y => if y = x then some v' else m y := by
  funext y
  by_cases e : y = x <;> simp [e]
theorem q_eq {Q : Flow → Shared → Prop} {v v' : Value} {s : Shared} (h : Q (.ret v') s) (e : v = v') : Q (.ret v) s := e ▸ h
noncomputable abbrev Map := Str → Option Value
section
variable {prog : Program} {w : World} {A : Around} {E : Value → Shared → Prop} {s : Shared} {env : Env} {h₀ : Heap} {x : Str} {body : List Stmt} {Q : Flow → Shared → Prop} {m₀ : Map} {news : Ledger} {σ : Type}

/-- The end of a turn: the state is of the next number. -/
noncomputable abbrev ItPost (h₀ : Heap) (L : Addr) (P : Nat → σ → Prop) (M : Nat → σ → Map → Map) (Nn : Nat → σ → Ledger → Ledger) (m₀ : Map) (news own : Ledger) (i : Nat) (s : Shared) (Q : Flow → Shared → Prop) : Flow → Shared → Prop :=
  InvPostN h₀ L (fun m nx => ∃ c, P i c ∧ m = M i c m₀ ∧ nx = Nn i c news) own (news.map (·.1)) s Q
theorem it_end {h₀ : Heap} {L : Addr} {P : Nat → σ → Prop} {M : Nat → σ → Map → Map} {Nn : Nat → σ → Ledger → Ledger} {own nw : Ledger} {i : Nat} {h' : Heap} {tk : Nat} {m' : Map} (c : σ)
    (F : Fr h₀ L h' m') (N : News h₀ L h' nw) (hs : ∀ p ∈ Nn i c news, p ∈ nw) (ho : ∀ p ∈ own, p ∈ nw) (ha : (Nn i c news).map (·.1) = news.map (·.1)) (hM : m' = M i c m₀) (hP : P i c) :
    ItPost h₀ L P M Nn m₀ news own i s Q .next { s with heap := h', toks := tk } :=
  ⟨h', tk, m', nw, Nn i c news, rfl, F, N, hs, ho, ha, c, hP, hM, rfl⟩
theorem it_gen {I : Addr} {fp wr : List Addr} {n : Nat} {R : Nat → Value → Prop} {St : Nat → Heap → Prop} (P : Nat → σ → Prop) (M : Nat → σ → Map → Map) (Nn : Nat → σ → Ledger → Ledger) (c₀ : σ)
    (W : Walks prog w A I fp wr n R St) (hLf : env.locals ∉ fp) (hwr : ∀ b ∈ wr, h₀.get? b = none) (hnw : ∀ p ∈ news, p.1 ∉ wr) (hfp : ∀ q ∈ news, q.1 ∉ fp) (hst : St 0 s.heap)
    (F : Fr h₀ env.locals s.heap m₀) (N : News h₀ env.locals s.heap news) (h0 : P 0 c₀) (hM : m₀ = M 0 c₀ m₀) (hN : news = Nn 0 c₀ news)
    (turn : ∀ i v c h tk own, i < n → R i v → OwnOff own (news.map (·.1)) → P i c → Fr h₀ env.locals h (fun y => if y = x then some v else M i c m₀ y) → News h₀ env.locals h (Nn i c news ++ own) →
      wpAny (model prog w) A (execs body env) (ItPost h₀ env.locals P M Nn m₀ news own (i + 1) { s with heap := h, toks := tk } Q) E { s with heap := h, toks := tk })
    (done : ∀ c h tk, P n c → Fr h₀ env.locals h (M n c m₀) → News h₀ env.locals h (Nn n c news) → Q .next { s with heap := h, toks := tk }) :
    LoopAtV prog w A h₀ env x body Q E (.ref I) s := by
  refine loop_invN (fun i m nx => ∃ c, P i c ∧ m = M i c m₀ ∧ nx = Nn i c news) W hLf hwr hnw hfp hst F N ⟨c₀, h0, hM, hN⟩ ?_ ?_
  · rintro i v m₁ nx h tk own hi hR _ hoff ⟨c, hc, rfl, rfl⟩ F₁ N₁
    exact turn i v c h tk own hi hR hoff hc F₁ N₁
  · rintro m₁ nx h tk ⟨c, hc, rfl, rfl⟩ F₁ N₁
    exact done c h tk hc F₁ N₁

/-- `for x in <a text>`. -/
theorem it_str {xt : Str} {tx : Tok} (P : Nat → σ → Prop) (M : Nat → σ → Map → Map) (Nn : Nat → σ → Ledger → Ledger) (c₀ : σ) (hh : A.handled = none)
    (F : Fr h₀ env.locals s.heap m₀) (N : News h₀ env.locals s.heap news) (h0 : P 0 c₀) (hM : m₀ = M 0 c₀ m₀) (hN : news = Nn 0 c₀ news)
    (turn : ∀ i c t d h tk own, xt.cps[i]? = some c → OwnOff own (news.map (·.1)) → P i d → Fr h₀ env.locals h (fun y => if y = x then some (.str ⟨#[c]⟩ t) else M i d m₀ y) → News h₀ env.locals h (Nn i d news ++ own) →
      wpAny (model prog w) A (execs body env) (ItPost h₀ env.locals P M Nn m₀ news own (i + 1) { s with heap := h, toks := tk } Q) E { s with heap := h, toks := tk })
    (done : ∀ d h tk, P xt.cps.size d → Fr h₀ env.locals h (M xt.cps.size d m₀) → News h₀ env.locals h (Nn xt.cps.size d news) → Q .next { s with heap := h, toks := tk }) :
    wpAny (model prog w) A (pyIter (.str xt tx)) (fun it s₂ => LoopAtV prog w A h₀ env x body Q E it s₂) E s := by
  refine wpAny_pyIter_str fun o St hW hst => ?_
  refine it_gen P M Nn c₀ (hW A hh) ?_ ?_ ?_ ?_ hst (F.push _) (fun p hp => ⟨Heap.get?_push_of_some _ (N p hp).1, (N p hp).2⟩) h0 hM hN ?_ done
  · intro hm
    exact absurd F.ns.lt ((List.mem_singleton.mp hm) ▸ Nat.lt_irrefl _)
  · intro b hb
    rw [List.mem_singleton.mp hb]
    exact next_is_new F
  · intro p hp hI
    exact absurd (Heap.lt_size (N p hp).1) ((List.mem_singleton.mp hI) ▸ Nat.lt_irrefl _)
  · intro p hp hI
    exact absurd (Heap.lt_size (N p hp).1) ((List.mem_singleton.mp hI) ▸ Nat.lt_irrefl _)
  · rintro i v d h tk own hi ⟨c, t, hc, rfl⟩ hoff hP F₁ N₁
    exact turn i c t d h tk own hc hoff hP F₁ N₁

/-- A while: the word P of a state, its measure, the names and the ledger by the state. -/
noncomputable def WhPost (h₀ : Heap) (L : Addr) (s : Shared) (P : σ → Prop) (μ : σ → Nat) (M : σ → Map → Map) (Nn : σ → Ledger → Ledger) (m₀ : Map) (news : Ledger) (Q : Flow → Shared → Prop) (c : σ) (f : Flow) (s₃ : Shared) : Prop :=
  match f with
  | .next | .cont => ∃ h' tk c' m' nw, s₃ = { s with heap := h', toks := tk } ∧ Fr h₀ L h' m' ∧ News h₀ L h' nw ∧ (∀ p ∈ Nn c' news, p ∈ nw) ∧ m' = M c' m₀ ∧ P c' ∧ μ c' < μ c
  | .brk => Q .next s₃
  | .ret v => Q (.ret v) s₃
theorem wh_end {L : Addr} {P : σ → Prop} {μ : σ → Nat} {M : σ → Map → Map} {Nn : σ → Ledger → Ledger} {nw : Ledger} {c : σ} {h' : Heap} {tk : Nat} {m' : Map} (c' : σ)
    (F : Fr h₀ L h' m') (N : News h₀ L h' nw) (hs : ∀ p ∈ Nn c' news, p ∈ nw) (hM : m' = M c' m₀) (hP : P c') (hμ : μ c' < μ c) :
    WhPost h₀ L s P μ M Nn m₀ news Q c .next { s with heap := h', toks := tk } := ⟨h', tk, c', m', nw, rfl, F, N, hs, hM, hP, hμ⟩
theorem while_st {L : Addr} {test : Expr} {pos : Pos} (P : σ → Prop) (μ : σ → Nat) (M : σ → Map → Map) (Nn : σ → Ledger → Ledger) (c₀ : σ)
    (F : Fr h₀ L s.heap m₀) (N : News h₀ L s.heap news) (h0 : P c₀) (hM : m₀ = M c₀ m₀) (hN : news = Nn c₀ news)
    (turn : ∀ c h tk, P c → Fr h₀ L h (M c m₀) → News h₀ L h (Nn c news) →
      wpAny (model prog w) A (isTrue test env (eval test env)) (fun b s₂ => if b = true then wpAny (model prog w) A (execs body env) (WhPost h₀ L s P μ M Nn m₀ news Q c) E s₂ else Q .next s₂) E { s with heap := h, toks := tk })
    (hE : PassesOwn (model prog w) A env E) : wpAny (model prog w) A (exec (.While test body [] pos) env) Q E s := by
  refine While_inv2 (fun n m nx => ∃ c, n = μ c ∧ m = M c m₀ ∧ nx = Nn c news ∧ P c) F N ⟨c₀, rfl, hM, hN, h0⟩ ?_ hE
  rintro n m₁ nx h tk F₁ N₁ ⟨c, rfl, rfl, rfl, hP⟩
  refine wpAny_mono (turn c h tk hP F₁ N₁) (fun b s₂ h₂ => ?_) fun _ _ e => e
  cases b with
  | false => exact h₂
  | true =>
    simp only [if_true] at h₂ ⊢
    refine wpAny_mono h₂ (fun f s₃ h₃ => ?_) fun _ _ e => e
    cases f with
    | ret v => exact h₃
    | brk => exact h₃
    | next =>
      obtain ⟨h', tk', c', m', nw, rfl, F', N', hs, rfl, hP', hμ⟩ := h₃
      exact ⟨h', tk', _, Nn c' news, μ c', rfl, F', fun p hp => N' p (hs p hp), hμ, c', rfl, rfl, rfl, hP'⟩
    | cont =>
      obtain ⟨h', tk', c', m', nw, rfl, F', N', hs, rfl, hP', hμ⟩ := h₃
      exact ⟨h', tk', _, Nn c' news, μ c', rfl, F', fun p hp => N' p (hs p hp), hμ, c', rfl, rfl, rfl, hP'⟩
end

theorem news_of {h₀ h : Heap} {L : Addr} {a b : Ledger} (N : News h₀ L h a) (hs : ∀ p ∈ b, p ∈ a) : News h₀ L h b := fun p hp => N p (hs p hp)

/-- A def's call by what is known of it. -/
theorem fn_use {w : World} {f : Addr} {vs : List Value} {news : Ledger} {D : Nat} {R : Ok → Prop} {mean : ExcName → Option Value} {mg mb : Str → Option Value} {dp un : Nat} {gd : Option (List Code)} {cn : Str} {cs : Scope} {a : Addr} {ccd : Value} {cl : List (Str × Addr)} {outer : List Env} {A₀ : Around} {base h₀ : Heap} {L : Addr} {m : Str → Option Value} {s : Shared} {Q : Value → Shared → Prop}
    (S : Fn w f vs news D R) (B : Below A₀ base outer h₀) (F : Fr h₀ L s.heap m) (X : (Mine.fr.heap_1 w.params).In h₀) (N : News h₀ L s.heap news) (T : Top Mine.view LO mean mg mb h₀) (hk : cs.kind = .function)
    (hd : dp + D < recursionLimit) (hu : un + 8 * D < cLine) (k : R (fun v news' => ∀ h' tk', Fr h₀ L h' m → News h₀ L h' news' → Q v { s with heap := h', toks := tk' })) :
    wpAny (model PRG w) (ktrTop dp un gd cn cs L a ccd cl outer) (call (.ref f) vs) Q NoE s := S mean mg mb dp un gd cn cs a ccd cl outer A₀ base h₀ L m s Q B F X N T hk hd hu k

noncomputable def CutI (I : Shared → Prop) (f : Flow) (s : Shared) : Prop := f = .next ∧ I s
theorem execs_cut {M : Model} {A : Around} {E : Value → Shared → Prop} {s : Shared} {env : Env} {st : Stmt} {rest : List Stmt} {Q : Flow → Shared → Prop} (I : Shared → Prop)
    (h1 : wpAny M A (exec st env) (CutI I) E s) (h2 : ∀ s', I s' → wpAny M A (execs rest env) Q E s') : wpAny M A (execs (st :: rest) env) Q E s :=
  wpAny_execs_cons (wpAny_mono h1 (fun f s' hc => by
    obtain ⟨rfl, hI⟩ := hc
    exact h2 s' hI) fun _ _ x => x)
/-! Contexts whose stack bears no code that holds a bytearray (what `exported` asks). Only the road to `found += ..` is told of these contexts. -/
noncomputable def holderIds : List String := ["bytearray.__contains__", "bytearray.__mod__", "bytearray.__rmod__", "_struct.pack_into.held", "bytearray.find.held"] ++ Builtin.Bytes.decodersThatHold
noncomputable def mayHold : Code → Bool
  | .builtin id _ => holderIds.contains id
  | _ => false
noncomputable def CleanL (l : List (Code × Pos)) : Prop := ∀ x ∈ l, mayHold x.1 = false
structure Clean (Γ : PySem.Ctx) : Prop where
  top : mayHold Γ.code = false
  below : CleanL Γ.below

noncomputable def wpC {α : Type} (M : Model) (A : Around) (t : Sem α) (Q : α → Shared → Prop) (E : Value → Shared → Prop) (s : Shared) : Prop :=
  ∀ Γ p, Γ.In A → Clean Γ → Sem.wp M Γ t (fun a _ s' => Q a s') (fun e _ s' => E e s') p s
noncomputable def codeC (M : Model) (A : Around) (c : Code) (R : Result → Shared → Prop) (s : Shared) : Prop :=
  ∀ Γ p, Γ.code = c → Γ.Below A → CleanL Γ.below → wpCode M Γ R p s

section
variable {α β : Type} {M : Model} {A : Around} {E : Value → Shared → Prop} {s : Shared}
theorem wpC_of {t : Sem α} {Q : α → Shared → Prop} (h : wpAny M A t Q E s) : wpC M A t Q E s := fun Γ p hΓ _ => h Γ p hΓ
theorem codeC_of {c : Code} {R : Result → Shared → Prop} (h : codeAny M A c R s) : codeC M A c R s := fun Γ p hc hΓ _ => h Γ p hc hΓ
theorem wpC_pure {a : α} {Q : α → Shared → Prop} (h : Q a s) : wpC M A (pure a) Q E s := fun _ _ _ _ => h
theorem wpC_mono {t : Sem α} {Q Q' : α → Shared → Prop} {E' : Value → Shared → Prop} (h : wpC M A t Q E s) (hQ : ∀ a s, Q a s → Q' a s) (hE : ∀ e s, E e s → E' e s) : wpC M A t Q' E' s :=
  fun Γ p hΓ hc => Sem.wp_mono M Γ t (fun a _ s => hQ a s) (fun e _ s => hE e s) p s (h Γ p hΓ hc)
theorem wpC_bind {m : Sem α} {f : α → Sem β} {Q : β → Shared → Prop} (h : wpC M A m (fun a s' => wpC M A (f a) Q E s') E s) : wpC M A (m >>= f) Q E s := fun Γ p hΓ hc => by
  rw [Sem.wp_bind']
  exact Sem.wp_mono M Γ m (fun a p' s' h' => h' Γ p' hΓ hc) (fun _ _ _ h' => h') p s (h Γ p hΓ hc)
/-- First what is told of every context, then the rest. -/
theorem wpC_bindA {m : Sem α} {f : α → Sem β} {Q : β → Shared → Prop} (h : wpAny M A m (fun a s' => wpC M A (f a) Q E s') E s) : wpC M A (m >>= f) Q E s := wpC_bind (wpC_of h)
theorem wpC_onRaise {m : Sem α} {k : Value → Sem Unit} {Q : α → Shared → Prop}
    (h : wpC M A m Q (fun e s' => wpC M A (k e) (fun _ s'' => E e s'') E s') s) : wpC M A (m.onRaise k) Q E s := fun Γ p hΓ hc => by
  rw [Sem.wp_onRaise]
  exact Sem.wp_mono M Γ m (fun _ _ _ h' => h') (fun e p' s' h' => h' Γ p' hΓ hc) p s (h Γ p hΓ hc)
theorem wpC_holding {vs : List Value} {m : Sem α} {Q : α → Shared → Prop} (h : wpC M A m Q E s) : wpC M A (holding vs m) Q E s :=
  fun Γ p hΓ hc => by rw [Sem.wp_holding]; exact h Γ p hΓ hc
theorem wpC_standAt {pos : Pos} {Q : Unit → Shared → Prop} (h : Q () s) : wpC M A (standAt pos) Q E s := fun _ _ _ _ => h
theorem cleanL_cons {Γ : PySem.Ctx} {p : Pos} (h : Clean Γ) : CleanL ((Γ.code, p) :: Γ.below) := by
  intro x hx
  rcases List.mem_cons.mp hx with rfl | hx
  · exact h.top
  · exact h.below x hx
theorem wpC_run {c : Code} {h : Option Value} {Q : Flow → Shared → Prop}
    (hc : codeC M (A.mark h) c (fun r s' => match r with | .ok f => Q f s' | .error e => E e s') s) (hnb : h ≠ some byPass := by intro x; cases x) : wpC M A (run c h) Q E s :=
  fun Γ p hΓ hcl => by rw [Sem.wp_run]; exact hc _ p rfl (hΓ.enter c h p hnb) (cleanL_cons hcl)
theorem wpC_runOwn {c : Code} {env : Env} {h : Option Value} {Q : Flow → Shared → Prop}
    (hc : codeC M (A.mark h) c (fun r s' => match r with | .ok f => Q f s' | .error e => cameBackBy M A env E e s') s) (hnb : h ≠ some byPass := by intro x; cases x) : wpC M A (runOwn c env h) Q E s := by
  unfold runOwn
  exact wpC_onRaise (wpC_mono (wpC_run (E := cameBackBy M A env E) hc hnb) (fun _ _ x => x) fun _ _ x => wpC_of x)
theorem wpC_runValue {c : Code} {Q : Value → Shared → Prop}
    (hc : codeC M A c (fun r s' => match r with | .ok (.ret v) => Q v s' | .ok _ => False | .error e => E e s') s) : wpC M A (runValue c) Q E s :=
  fun Γ p hΓ hcl => by rw [Sem.wp_runValue]; exact hc _ p rfl (hΓ.enter c none p (by intro x; cases x)) (cleanL_cons hcl)
theorem wpC_call {f : Value} {pos : List Value} {kw : List (Str × Value)} {Q : Value → Shared → Prop}
    (hc : codeC M A (.call f ⟨pos, kw⟩) (fun r s' => match r with | .ok (.ret v) => Q v s' | .ok _ => False | .error e => E e s') s) : wpC M A (call f pos kw) Q E s := wpC_runValue hc
theorem codeC_of_tree {c : Code} {R : Result → Shared → Prop} (hb : mayHold c = false)
    (h : wpC M (A.under c) (M.den c) (fun fin s' => match fin with | .done f => R (.ok f) s' | .again c' => c'.quiet = true ∧ codeC M A c' R s')
      (fun e s' => R (.error e) s') s) : codeC M A c R s := fun Γ p hc hΓ hcl => by
  rw [wpCode_iff_wp, hc]
  refine Sem.wp_mono M Γ _ (fun fin p' s' h' => ?_) (fun _ _ _ h' => h') p s (h Γ p (hc ▸ hΓ.in) ⟨by rw [hc]; exact hb, hcl⟩)
  cases fin with
  | done f => exact h'
  | again c' => exact ⟨h'.1, h'.2 (Γ.goto c') p' rfl (hΓ.goto c') hcl⟩
end
section
variable {M : Model} {A : Around} {E : Value → Shared → Prop} {s : Shared} {env : Env}
theorem wpC_execs_cons {st : Stmt} {rest : List Stmt} {Q : Flow → Shared → Prop}
    (h : wpC M A (exec st env) (fun f s' => match f with | .next => wpC M A (execs rest env) Q E s' | f => Q f s') E s) : wpC M A (execs (st :: rest) env) Q E s := by
  rw [execs_cons]
  refine wpC_bind (wpC_mono h (fun f s' h' => ?_) fun _ _ x => x)
  cases f <;> first | exact h' | exact wpC_pure h'
theorem wpC_Return_some {e : Expr} {pos : Pos} {Q : Flow → Shared → Prop} (h : wpC M A (eval e env) (fun v => Q (.ret v)) E s) : wpC M A (exec (.Return (some e) pos) env) Q E s := fun Γ p hΓ hc => by
  simp only [exec_Return_some, Sem.wp_bind', Sem.wp_cmd_standAt, Sem.wp_pure']; exact h Γ _ hΓ hc
theorem wpC_Assign_Name {x : Str} {pos' : Pos} {value : Expr} {pos : Pos} {Q : Flow → Shared → Prop}
    (h : wpC M A (eval value env) (fun v s₁ => wpAny M A (storeName env x v) (fun _ => Q .next) E s₁) E s)
    (hs : swapsWith value (some (.Name x pos')) pos.line env = pure false) : wpC M A (exec (.Assign [.Name x pos'] value pos) env) Q E s := fun Γ p hΓ hc => by
  simp only [exec_Assign_Name env x pos' value pos hs, Sem.wp_bind', Sem.wp_cmd_standAt, Sem.wp_bindName, Sem.wp_pure']
  exact Sem.wp_mono M Γ _ (fun v _ s₁ h₁ => h₁ Γ _ hΓ) (fun _ _ _ h' => h') _ _ (h Γ _ hΓ hc)
theorem wpC_Assign_Tuple {elts : List Expr} {k : Nat} {tpos : Pos} {value : Expr} {pos : Pos} {Q : Flow → Shared → Prop}
    (h : wpC M A (eval value env) (fun v s₁ => wpAny M A (assign (.Tuple elts k tpos) env v) (fun _ => Q .next) E s₁) E s)
    (hs : swapsWithSole [.Tuple elts k tpos] value pos.line env = pure false) (hw : swappedStores [.Tuple elts k tpos] value env = pure none) :
    wpC M A (exec (.Assign [.Tuple elts k tpos] value pos) env) Q E s := by
  rw [exec_Assign]
  refine wpC_bind (wpC_standAt ?_)
  rw [hs]
  refine wpC_bind (wpC_pure ?_)
  rw [if_neg (by decide)]
  refine wpC_bind (wpC_mono h (fun v s₁ h₁ => ?_) fun _ _ x => x)
  rw [hw]
  refine wpC_bind (wpC_pure ?_)
  show wpC M A (do assignAll v [assign (.Tuple elts k tpos) env]; pure .next) Q E s₁
  exact wpC_of (wpAny_bind (wpAny_mono h₁ (fun _ _ x => wpAny_pure x) fun _ _ x => x))
theorem wpC_If {test : Expr} {body orelse : List Stmt} {pos : Pos} {Q : Flow → Shared → Prop}
    (h : wpAny M A (isTrue test env (eval test env)) (fun b s₂ => if b = true then wpC M A (execs body env) Q E s₂ else wpC M A (execs orelse env) Q E s₂) E s) :
    wpC M A (exec (.If test body orelse pos) env) Q E s := fun Γ p hΓ hc => by
  simp only [exec_If, Sem.wp_bind', Sem.wp_cmd_standAt]
  refine Sem.wp_mono M Γ _ (fun b p₂ s₂ h₂ => ?_) (fun _ _ _ h' => h') _ _ (h Γ _ hΓ)
  cases b <;> exact h₂ Γ p₂ hΓ hc
theorem wpC_AugAssign_Name {x : Str} {pos' : Pos} {op : Operator} {value : Expr} {pos : Pos} {Q : Flow → Shared → Prop}
    (h : wpAny M A (loadName env x) (fun old s₁ => wpAny M A (eval value env) (fun v s₂ => wpC M A (inplaceOp op old v)
      (fun r s₃ => wpAny M A (storeName env x r) (fun _ => Q .next) E s₃) E s₂) E s₁) E s) :
    wpC M A (exec (.AugAssign (.Name x pos') op value pos) env) Q E s := fun Γ p hΓ hc => by
  simp only [exec_AugAssign_Name, Sem.wp_bind', Sem.wp_holding, Sem.wp_cmd_standAt, Sem.wp_operate, Sem.wp_bindName, Sem.wp_pure']
  exact Sem.wp_mono M Γ _ (fun old p₁ s₁ h₁ => Sem.wp_mono M Γ _ (fun v _ s₂ h₂ => Sem.wp_mono M Γ _ (fun r _ s₃ h₃ => h₃ Γ _ hΓ)
    (fun _ _ _ h' => h') _ _ (h₂ Γ _ hΓ hc)) (fun _ _ _ h' => h') _ _ (h₁ Γ p₁ hΓ)) (fun _ _ _ h' => h') _ _ (h Γ _ hΓ)
theorem wpC_Call {func : Expr} {args : List Expr} {pos : Pos} {Q : Value → Shared → Prop}
    (h : wpAny M A (eval func env) (fun f s₁ => wpC M A (callWith pos f [] (backTo pos (starEach args env)) []) Q E s₁) E s)
    (he : eval (.Call func args [] pos) env = (do callWith pos (← eval func env) [] (backTo pos (starEach args env)) (backToKw pos (keywordEach [] env)))) :
    wpC M A (eval (.Call func args [] pos) env) Q E s := by
  rw [he]; exact wpC_bind (wpC_of h)
theorem splicedC_nil {Q : List Value → Shared → Prop} (h : Q [] s) : wpC M A (spliced []) Q E s := wpC_pure h
theorem splicedC_cons {x : Sem Value} {rest : List (Bool × Sem Value)} {Q : List Value → Shared → Prop}
    (h : wpC M A x (fun v s₁ => wpC M A (spliced rest) (fun vs s₂ => Q (v :: vs) s₂) E s₁) E s) : wpC M A (spliced ((false, x) :: rest)) Q E s := by
  rw [spliced]
  refine wpC_bind (wpC_mono h (fun v s₁ h₁ => ?_) fun _ _ x => x)
  simp only [Bool.false_eq_true, if_false]
  exact wpC_bind (wpC_pure (wpC_bind (wpC_holding (wpC_mono h₁ (fun vs s₂ h₂ => wpC_pure h₂) fun _ _ x => x))))
theorem evalArgsC_plain {f : Value} {x : Sem Value} {rest : List (Bool × Sem Value)} {Q : Args → Shared → Prop}
    (h : wpC M A (spliced ((false, x) :: rest)) (fun vs s' => Q ⟨vs, []⟩ s') E s) : wpC M A (evalArgs f true ((false, x) :: rest) []) Q E s := by
  unfold evalArgs
  show wpC M A (spliced ((false, x) :: rest) >>= _) Q E s
  refine wpC_bind (wpC_mono h (fun vs s' h' => ?_) fun _ _ x => x)
  refine wpC_holding ?_
  exact wpC_bind (wpC_pure (wpC_bind (wpC_pure (wpC_pure h'))))
theorem wpC_keep {α : Type} {vs : List Value} {m : Sem α} {Q : α → Shared → Prop} (h : wpC M A m Q E s) : wpC M A (m.keep vs) Q E s :=
  fun Γ p hΓ hc => by rw [Sem.wp_keep]; exact h Γ p hΓ hc
theorem callWithC_of {P : Heap → Prop} {f : Value} {first : List Value} {pos : Pos} {args : List (Bool × Sem Value)} {Q : Value → Shared → Prop} (hplain : args.any (·.1) = false)
    (hk : ∀ h, P h → ∃ k, (k = Keeper.frame ∨ k = Keeper.machine ∨ k = Keeper.boundFrame) ∧ Looks M h (keeperOf f) k)
    (h : wpC M A (evalArgs f true args []) (fun a s₁ => P s₁.heap ∧ wpC M A (call f (first ++ a.pos) a.kw) Q E s₁) E s) : wpC M A (callWith pos f first args []) Q E s := by
  unfold callWith
  refine wpC_bind (wpC_holding (wpC_mono h (fun a s₁ h₁ => wpC_bind (wpC_standAt ?_)) fun _ _ x => x))
  obtain ⟨k, hk', L⟩ := hk _ h₁.1
  simp only [hplain, List.any_nil, Bool.or_false]
  refine wpC_bind (wpC_of (L.here ?_))
  have tail : ∀ {t : Sem Value}, wpC M A t Q E s₁ → wpC M A (t >>= fun r => holding [r] point >>= fun _ => pure r) Q E s₁ :=
    fun ht => wpC_bind (wpC_mono ht (fun r s₂ hr => wpC_of (wpAny_bind (wpAny_holding (wpAny_point (wpAny_pure hr))))) fun _ _ x => x)
  have marked (mk : Value) : wpC M A (callMarked mk f (first ++ a.pos) a.kw) Q E s₁ := by unfold callMarked; exact wpC_keep h₁.2
  rcases hk' with rfl | rfl | rfl <;> dsimp only <;> first | exact tail h₁.2 | (split <;> first | exact tail h₁.2 | exact tail (marked _))
end
section
variable {prog : Program} {w : World} {A : Around} {s : Shared} {env : Env}
theorem wpC_noRaise {α : Type} {M : Model} {A : Around} {E : Value → Shared → Prop} {s : Shared} {t : Sem α} {Q : α → Shared → Prop} (h : wpC M A t Q NoE s) : wpC M A t Q E s := wpC_mono h (fun _ _ x => x) (fun _ _ x => x.elim)
theorem codeC_func {R : Result → Shared → Prop} {body : List Stmt} {env : Env}
    (h : wpC (model prog w) (A.deeper env) (execs body env) (fun f s' => R (.ok (.ret (match f with | .ret v => v | _ => .none))) s') NoE s) : codeC (model prog w) A (.func body env) R s := by
  refine codeC_of_tree rfl ?_
  show wpC _ (A.deeper env) (do point; match ← (execs body env).onRaise (leaving env) with | .ret v => ret v | _ => ret .none) _ _ s
  refine wpC_bind (wpC_of (wpAny_point (wpC_bind (wpC_onRaise (wpC_mono h (fun f s' h' => ?_) fun _ _ h' => h'.elim)))))
  cases f <;> exact wpC_pure h'
theorem codeC_call_function {R : Result → Shared → Prop} {a : Addr} {args : Args} {o : Obj} {fd : FuncData} {body : List Stmt} (hroom : A.depth < recursionLimit)
    (ho : s.heap.get? a = some o) (hd' : o.data = .func fd) (hco : fd.scope.isCoroutine = false) (hgen : fd.scope.isGenerator = false) (hbody : fd.body = .stmts body) (hcd : s.heap.CodeRec fd.code fd.qualname)
    (h : wpAny (model prog w) A.in1 (bindArgs fd args) (fun binds s₁ =>
      wpAny (model prog w) A.in1 (newFunctionEnv fd.scope fd.globals fd.closure binds (fd.qualname ++ ".<locals>.") (some a) fd.code none fd.builtins)
        (fun env s₂ => s₂.heap.NoLimit ∧ codeC (model prog w) A (.func body env) R s₂) (fun e s' => R (.error e) s') s₁) (fun e s' => R (.error e) s') s) :
    codeC (model prog w) A (.call (.ref a) args) R s := by
  refine codeC_of_tree rfl ?_
  show wpC _ A.in1 (callAny (.ref a) args) _ _ s
  simp only [callAny]
  refine wpC_of (wpAny_bind (wpAny_load ho ?_))
  obtain ⟨c, oc, vs, tq, hc, hoc, hdc, hq⟩ := hcd
  simp only [hd', callFunction, hco, hgen, hbody, hc]
  rw [hc] at h
  refine wpAny_bind (m := field (.ref c) 1) (wpAny_field hoc hdc hq (wpAny_bind (wpAny_pure ?_)))
  exact wpAny_bind (wpAny_mono h (fun binds s₁ h₁ => wpAny_bind (wpAny_mono h₁ (fun env s₂ h₂ => wpAny_bind (wpAny_enterFrame h₂.1 hroom
    (wpAny_pure (And.intro rfl h₂.2)))) fun _ _ h' => h')) fun _ _ h' => h')

theorem whileC_st {σ : Type} {h₀ : Heap} {L : Addr} {m₀ : Map} {news : Ledger} {test : Expr} {body : List Stmt} {pos : Pos} {Q : Flow → Shared → Prop} (P : σ → Prop) (μ : σ → Nat) (M : σ → Map → Map) (Nn : σ → Ledger → Ledger) (c₀ : σ)
    (F : Fr h₀ L s.heap m₀) (N : News h₀ L s.heap news) (h0 : P c₀) (hM : m₀ = M c₀ m₀) (hN : news = Nn c₀ news)
    (turn : ∀ c h tk, P c → Fr h₀ L h (M c m₀) → News h₀ L h (Nn c news) →
      wpAny (model prog w) A (isTrue test env (eval test env)) (fun b s₂ => if b = true then wpC (model prog w) A (execs body env) (WhPost h₀ L s P μ M Nn m₀ news Q c) NoE s₂ else Q .next s₂) NoE { s with heap := h, toks := tk }) :
    wpC (model prog w) A (exec (.While test body [] pos) env) Q NoE s := by
  rw [exec_While]
  refine wpC_bind (wpC_standAt (wpC_runOwn ?_))
  show codeC (model prog w) A _ _ s
  have loop : ∀ (n : Nat) (c : σ) (h : Heap) (tk : Nat), μ c = n → P c → Fr h₀ L h (M c m₀) → News h₀ L h (Nn c news) →
      codeC (model prog w) A (.whileLoop test body [] env) (fun r s' => match r with | .ok f => Q f s' | .error e => cameBackBy (model prog w) A env NoE e s') { s with heap := h, toks := tk } := by
    intro n
    induction n using Nat.strongRecOn with
    | ind n ih =>
      intro c h tk hn hP F₁ N₁
      refine codeC_of_tree rfl ?_
      show wpC _ A ((whileTurn test body [] env).onRaise (fun x => do noteFrame x env; theTreesLotGoes x)) _ _ _
      refine wpC_onRaise (wpC_mono (Q := fun fin s' => match fin with | .done f => Q f s' | .again c' => c'.quiet = true ∧ codeC (model prog w) A c' (fun r s' => match r with | .ok f => Q f s' | .error e => cameBackBy (model prog w) A env NoE e s') s') (E := NoE) ?_ (fun _ _ x => x) fun _ _ x => x.elim)
      simp only [whileTurn]
      refine wpC_bindA (wpAny_mono (turn c h tk hP F₁ N₁) (fun b s₂ h₂ => ?_) fun _ _ x => x)
      cases b with
      | false =>
        simp only [Bool.false_eq_true, if_false] at h₂ ⊢
        exact wpC_of (wpAny_bind (wpAny_execs_nil (wpAny_pure h₂)))
      | true =>
        simp only [if_true] at h₂ ⊢
        refine wpC_bind (wpC_mono h₂ (fun f s₃ h₃ => ?_) fun _ _ x => x)
        cases f with
        | ret v => exact wpC_pure h₃
        | brk => exact wpC_pure h₃
        | next =>
          obtain ⟨h', tk', c', m', nw, rfl, F', N', hs, rfl, hP', hμ⟩ := h₃
          exact wpC_pure ⟨rfl, ih (μ c') (hn ▸ hμ) c' h' tk' rfl hP' F' fun p hp => N' p (hs p hp)⟩
        | cont =>
          obtain ⟨h', tk', c', m', nw, rfl, F', N', hs, rfl, hP', hμ⟩ := h₃
          exact wpC_pure ⟨rfl, ih (μ c') (hn ▸ hμ) c' h' tk' rfl hP' F' fun p hp => N' p (hs p hp)⟩
  exact loop _ c₀ s.heap s.toks rfl h0 (hM ▸ F) (hN ▸ N)
end
/-- As Fn, told of clean contexts alone. -/
noncomputable def FnC (w : World) (f : Addr) (vs : List Value) (news : Ledger) (D : Nat) (R : Ok → Prop) : Prop :=
  ∀ (mean : ExcName → Option Value) (mg mb : Str → Option Value) (dp un : Nat) (gd : Option (List Code)) (cn : Str) (cs : Scope) (a : Addr) (ccd : Value) (cl : List (Str × Addr)) (outer : List Env) (A₀ : Around) (base h₀ : Heap) (L : Addr) (m : Str → Option Value) (s : Shared) (Q : Value → Shared → Prop),
    Below A₀ base outer h₀ → Fr h₀ L s.heap m → (Mine.fr.heap_1 w.params).In h₀ → News h₀ L s.heap news → Top Mine.view LO mean mg mb h₀ → cs.kind = .function →
    dp + D < recursionLimit → un + 8 * D < cLine →
    R (fun v news' => ∀ h' tk', Fr h₀ L h' m → News h₀ L h' news' → Q v { s with heap := h', toks := tk' }) →
    wpC (model PRG w) (ktrTop dp un gd cn cs L a ccd cl outer) (call (.ref f) vs) Q NoE s
noncomputable def BdC (w : World) (qual : Str) (scope : Scope) (f : Addr) (cdv : Value) (body : List Stmt) (m : Str → Option Value) (news : Ledger) (D : Nat) (R : Ok → Prop) : Prop :=
  ∀ (mean : ExcName → Option Value) (mg mb : Str → Option Value) (dp un : Nat) (gd : Option (List Code)) (outer : List Env) (A₀ : Around) (base g : Heap) (L : Addr) (s : Shared) (Q : Flow → Shared → Prop),
    Below A₀ base outer g → Fr g L s.heap m → (Mine.fr.heap_1 w.params).In g → News g L s.heap news → Top Mine.view LO mean mg mb g →
    dp + D < recursionLimit → un + 8 * D < cLine →
    R (fun v news' => ∀ h' tk' m', Fr g L h' m' → News g L h' news' → Q (.ret v) { s with heap := h', toks := tk' }) →
    wpC (model PRG w) (ktrTop dp un gd qual scope L f cdv [] outer) (execs body (envOf qual scope L f cdv)) Q NoE s

theorem fnC_of_body {w : World} {name qual : Str} {params : Arguments} {body : List Stmt} {scope : Scope} {dV kV doc pm cdv ct oc : Value} {an od : Option Addr} {osl : Array (Option Value)} {f : Addr} {vs : List Value} {binds : List (Str × Value)} {news : Ledger} {D : Nat} {R : Ok → Prop}
    (ho : (Mine.fr.heap_1 w.params).lookup f = some ⟨oc, od, .func (fnOf name qual params body scope dV kV doc pm an cdv ct), osl⟩) (hcd : codeIn (Mine.fr.heap_1 w.params) cdv qual = true)
    (hbind : bindArgs (fnOf name qual params body scope dV kV doc pm an cdv ct) ⟨vs, []⟩ = pure binds) (hloc : (binds.all fun x => decide (scope.names.lookup x.1 = some .local)) = true)
    (hcell : ∀ x ∈ scope.names, x.2 ≠ .cell)
    (hR : ∀ ok ok' : Ok, (∀ v n, ok v n → ok' v n) → R ok → R ok')
    (h : BdC w qual scope f cdv body (fun y => binds.reverse.lookup y) news D R)
    (hco : scope.isCoroutine = false := by rfl) (hgen : scope.isGenerator = false := by rfl) (hk : scope.kind = .function := by rfl) : FnC w f vs news (D + 1) R := by
  intro mean mg mb dp un gd cn cs a ccd cl outer A₀ base h₀ L m s Q B F X N T hks hd hu hret
  refine wpC_call ?_
  obtain ⟨FG, BG, st, lv⟩ := groundX (env := envX cn cs L a ccd cl) (outer := outer) (A := ktrTop dp un gd cn cs L a ccd cl outer) (R := fun r s' => match r with | .ok (.ret v) => Q v s' | .ok _ => False | .error e => NoE e s') B F N rfl rfl hks
  have ho' := (X.keeps F.keep) _ _ ho
  refine codeC_call_function (fd := fnOf name qual params body scope dV kV doc pm an cdv ct) (body := body) (by show dp < recursionLimit; omega) ho' rfl hco hgen rfl (codeRec_of (X.keeps F.keep) hcd) (BindsTo.of_eq hbind _ _ _ _ ?_)
  refine wpAny_newFunctionEnv hcell (locs hloc) (fun h₁ hns hsb => ⟨(T.nolimit.keeps F.keep).fresh _ hsb, codeC_func ?_⟩) hk
  have hk₁ : ∀ b o, s.heap.get? b = some o → h₁.get? b = some o := fun b o e => hsb.extBut b o (Nat.ne_of_lt (Heap.lt_size e)) (Heap.get?_push_of_some _ e)
  refine wpC_mono (h mean mg mb (dp + 1) (un + 3) gd (envX cn cs L a ccd cl :: outer) _ base (hideAll s.heap (news.map (·.1))) s.heap.objs.size _ (fun fl s' => LeaveK h₀ L m (hideAll s.heap (news.map (·.1))) (fun r s' => match r with | .ok (.ret v) => Q v s' | .ok _ => False | .error e => NoE e s') (match fl with | .ret v => v | _ => .none) s')
    BG ⟨hns, fun b o e => hk₁ b o (of_hideAll _ e), Nat.le_of_eq (hideAll_size _ _)⟩ (X.keeps st)
    (fun p hp => ⟨hk₁ _ _ (N p hp).1, Nat.ne_of_lt (Heap.lt_size (N p hp).1), hideAll_none _ (List.mem_map_of_mem hp)⟩) (T.keeps st) (by omega) (by omega) ?_) (fun fl s' hl => lv _ _ hl) fun _ _ x => x
  refine hR _ _ ?_ hret
  intro v n hok h' tk' m' F2 N2
  exact leaveK_ F2 N2 fun F3 N3 => hok h' tk' F3 N3

theorem fnC_use {w : World} {f : Addr} {vs : List Value} {news : Ledger} {D : Nat} {R : Ok → Prop} {mean : ExcName → Option Value} {mg mb : Str → Option Value} {dp un : Nat} {gd : Option (List Code)} {cn : Str} {cs : Scope} {a : Addr} {ccd : Value} {cl : List (Str × Addr)} {outer : List Env} {A₀ : Around} {base h₀ : Heap} {L : Addr} {m : Str → Option Value} {s : Shared} {Q : Value → Shared → Prop}
    (S : FnC w f vs news D R) (B : Below A₀ base outer h₀) (F : Fr h₀ L s.heap m) (X : (Mine.fr.heap_1 w.params).In h₀) (N : News h₀ L s.heap news) (T : Top Mine.view LO mean mg mb h₀) (hk : cs.kind = .function)
    (hd : dp + D < recursionLimit) (hu : un + 8 * D < cLine) (k : R (fun v news' => ∀ h' tk', Fr h₀ L h' m → News h₀ L h' news' → Q v { s with heap := h', toks := tk' })) :
    wpC (model PRG w) (ktrTop dp un gd cn cs L a ccd cl outer) (call (.ref f) vs) Q NoE s := S mean mg mb dp un gd cn cs a ccd cl outer A₀ base h₀ L m s Q B F X N T hk hd hu k
theorem FnC.of {w : World} {f : Addr} {vs : List Value} {news : Ledger} {D : Nat} {R : Ok → Prop} (S : Fn w f vs news D R) : FnC w f vs news D R :=
  fun mean mg mb dp un gd cn cs a ccd cl outer A₀ base h₀ L m s Q B F X N T hk hd hu k => wpC_of (S mean mg mb dp un gd cn cs a ccd cl outer A₀ base h₀ L m s Q B F X N T hk hd hu k)
/-- A call of a written def by its name. -/
theorem callWithC_K {M : Model} {A : Around} {E : Value → Shared → Prop} {s : Shared} {env : Env} {K : Frag} {f : Value} {h₀ : Heap} {e : Expr} {rest : List Expr} {pos : Pos} {Q : Value → Shared → Prop} (_X : K.In h₀) (hk : keepIn K f = true)
    (h : wpC M A (spliced (backTo pos (starEach (e :: rest) env))) (fun vs s₁ => K.In s₁.heap ∧ wpC M A (call f vs) Q E s₁) E s)
    (he : starEach (e :: rest) env = (false, eval e env) :: starEach rest env) (hplain : (backTo pos (starEach rest env)).any (·.1) = false) :
    wpC M A (callWith pos f [] (backTo pos (starEach (e :: rest) env)) []) Q E s := by
  rw [he] at h ⊢
  exact callWithC_of (first := []) (by show (false || (backTo pos (starEach rest env)).any (·.1)) = false; rw [hplain]; rfl) (keeps_K hk) (evalArgsC_plain h)
theorem codeC_builtin {prog : Program} {w : World} {A : Around} {s : Shared} {id : String} {args : Args} {b : Builtin} {R : Result → Shared → Prop} (hm : holderIds.contains id = false) (hb : entryFor table id = some b)
    (h : wpC (model prog w) (A.under (.builtin id args)) (b args) (fun fin s' => match fin with | .done f => R (.ok f) s' | .again c' => c'.quiet = true ∧ codeC (model prog w) A c' R s') (fun e s' => R (.error e) s') s) :
    codeC (model prog w) A (.builtin id args) R s := by
  refine codeC_of_tree hm ?_
  show wpC _ _ (match entryFor table id with | some b => b args | none => unsupported ((withoutEnding? id "#data").getD id)) _ _ s
  rw [hb]; exact h
section
variable {M : Model} {A : Around} {E : Value → Shared → Prop} {s : Shared}
theorem wpC_exported {self : Value} {Q : Bool → Shared → Prop} (h : Q false s) : wpC M A (Builtin.Bytes.exported self) Q E s := fun Γ p _ hc => by
  show Q (((Γ.code, p) :: Γ.below).any _) s
  rw [List.any_eq_false.mpr ?_]
  · exact h
  · intro x hx
    obtain ⟨c, q⟩ := x
    have hm : mayHold c = false := by
      rcases List.mem_cons.mp hx with e | e
      · cases e; exact hc.top
      · exact hc.below _ e
    cases c with
    | builtin id as =>
      have hd : holderIds.contains id = false := hm
      clear hm hx
      obtain ⟨pos, kw⟩ := as
      have h1 : id ≠ "bytearray.__contains__" := by rintro rfl; revert hd; decide
      have h2 : id ≠ "bytearray.__mod__" := by rintro rfl; revert hd; decide
      have h3 : id ≠ "bytearray.__rmod__" := by rintro rfl; revert hd; decide
      have h4 : id ≠ "_struct.pack_into.held" := by rintro rfl; revert hd; decide
      have h5 : id ≠ "bytearray.find.held" := by rintro rfl; revert hd; decide
      have h6 : Builtin.Bytes.decodersThatHold.contains id = false := by
        cases hh : Builtin.Bytes.decodersThatHold.contains id with
        | false => rfl
        | true =>
          have : holderIds.contains id = true := List.contains_iff_mem.mpr (List.mem_append_right _ (List.contains_iff_mem.mp hh))
          rw [this] at hd; cases hd
      clear hd
      refine fun e => Bool.false_ne_true (Eq.trans (Eq.symm ?_) e)
      cases pos with
      | nil =>
        unfold Builtin.Bytes.exported.match_1
        dsimp only
        change dite (id = "bytearray.__contains__") _ _ = false
        refine (dif_neg h1).trans ?_
        refine (dif_neg h2).trans ?_
        refine (dif_neg h3).trans ?_
        refine (dif_neg h4).trans ?_
        refine (dif_neg h5).trans ?_
        rfl
      | cons v l =>
        unfold Builtin.Bytes.exported.match_1
        dsimp only
        change dite (id = "bytearray.__contains__") _ _ = false
        refine (dif_neg h1).trans ?_
        refine (dif_neg h2).trans ?_
        refine (dif_neg h3).trans ?_
        refine (dif_neg h4).trans ?_
        refine (dif_neg h5).trans ?_
        exact (congrArg (Builtin.Bytes.sameRef v self && ·) h6).trans (Bool.and_false _)
    | _ => exact Bool.false_ne_true
end

namespace BA
theorem mro : mroOf (.type "bytearray") = pure [.type "bytearray", .type "object"] := by rw [mroOf_type]; kernel_rfl
theorem slot_add : Slot "bytearray" "__add__" "bytearray.__add__" :=
  .of (owner := "bytearray") (n := "__add__") (by rw [typeLookup_type, builtinLookup_eq_fast]; kernel_rfl) (by decide +kernel) (by decide +kernel) (by decide +kernel)
    (by first | exact .inl (by decide +kernel) | exact .inr (by decide +kernel)) (by rw [isSubtype_type]; kernel_rfl)
theorem noR : typeLookup (.type "bytearray") (dunderR "add") = pure none := by rw [typeLookup_type, builtinLookup_eq_fast]; kernel_rfl
theorem no_fill : fillsNumberSlot (.type "bytearray") "add" = pure false := PySem.fillsNumberSlot_seq (id := "bytearray.__add__") (r := none) slot_add.lookup (by decide +kernel) noR rfl
theorem slot_iadd : seqSlot? (.type "bytearray") (dunderI "add") = pure (some (.builtin "bytearray.__iadd__")) := by
  unfold seqSlot?
  rw [typeLookup_type, builtinLookup_eq_fast]; kernel_rfl
theorem no_fill_i : fillsInplaceSlot (.type "bytearray") "add" true = pure false := by
  unfold fillsInplaceSlot
  show (typeLookup (.type "bytearray") (dunderI "add") >>= fun fi => pure (fi.isSome && !isSeqSlot fi)) = pure false
  rw [typeLookup_type, builtinLookup_eq_fast]; kernel_rfl
theorem entry_iadd : entryFor table "bytearray.__iadd__" = some Builtin.«bytearray.__iadd__» := by first | exact entryFor_of_fast (by kernel_rfl) | exact entryFor_of_tree (by kernel_rfl)
theorem plain_iadd : plainId "bytearray.__iadd__" = true := by decide +kernel
theorem slot_iaddS : Slot "bytearray" "__iadd__" "bytearray.__iadd__" :=
  .of (owner := "bytearray") (n := "__iadd__") (by rw [typeLookup_type, builtinLookup_eq_fast]; kernel_rfl) (by decide +kernel) (by decide +kernel) (by decide +kernel)
    (by first | exact .inl (by decide +kernel) | exact .inr (by decide +kernel)) (by rw [isSubtype_type]; kernel_rfl)
theorem args_iadd (a b : Value) : argsOk "bytearray.__iadd__" ⟨[a, b], []⟩ := by unfold argsOk; kernel_rfl
theorem take_eq {id : String} {c : Array UInt8} {t : Tok} : Builtin.Bytes.takeBufferQuiet? id (.bytes c t) 0 = pure (some (c, none)) := by
  unfold Builtin.Bytes.takeBufferQuiet? Builtin.Bytes.takeBuffer?
  rw [KBy.special_eq KBy.look_buffer, KBy.own_buffer]
  show (Sem.attempt (Builtin.Bytes.buffer? id (.bytes c t) (0 == Builtin.Bytes.fullReadOnly) >>= fun r => pure (r.map (·, none))) >>= _) = _
  rw [show ((0 : Int) == Builtin.Bytes.fullReadOnly) = false from by decide +kernel, KBy.buffer_eq]
  rfl
end BA
section
variable {prog : Program} {w : World} {A : Around} {E : Value → Shared → Prop} {s : Shared} {a : Addr} {b c : Array UInt8} {t : Tok}
theorem type_ba (ho : s.heap.get? a = some { cls := .type "bytearray", data := .bytearray b }) : s.TypeIs (.ref a) "bytearray" := ⟨_, ho, rfl⟩
theorem iadd_ba {Q : Value → Shared → Prop} (ho : s.heap.get? a = some { cls := .type "bytearray", data := .bytearray b }) (hz : b.size + c.size ≤ 16777216)
    (h : Q (.ref a) { s with heap := s.heap.update a (Obj.mapBytearray (· ++ c)) }) : wpC (model prog w) A (inplaceOp .Add (.ref a) (.bytes c t)) Q E s := by
  have hT := type_ba ho
  unfold inplaceOp
  refine wpC_holding (wpC_bindA (wpAny_typeOf hT ?_))
  refine wpC_bindA (wpAny_of_eq BA.no_fill_i ?_)
  show wpC _ A (if false = true then _ else _) Q E s
  rw [if_neg Bool.false_ne_true]
  refine wpC_bindA ?_
  simp only [binaryOp1]
  refine wpAny_bind (wpAny_typeOf hT (wpAny_bind (wpAny_typeOf (typeIs_bytes s c t) (wpAny_bind (wpAny_of_eq BA.no_fill ?_)))))
  simp only [show (Value.type "bytearray" == Value.type "bytes") = false from by decide, Bool.false_eq_true, if_false]
  refine wpAny_bind (wpAny_of_eq KBy.noFill_bytes_add ?_)
  simp only [Bool.false_and, Bool.false_eq_true, if_false, pure_bind]
  refine wpAny_pure ?_
  refine wpC_bindA (wpAny_of_eq BA.slot_iadd ?_)
  refine wpC_bindA (wpAny_rule ?_)
  refine wpC_call ?_
  refine codeC_of_tree rfl ?_
  show wpC _ A.in1 (do checkBuiltinCall "bytearray.__iadd__" ⟨[.ref a, .bytes c t], []⟩; again (.builtin "bytearray.__iadd__" ⟨[.ref a, .bytes c t], []⟩)) _ _ s
  refine wpC_bindA (BA.slot_iaddS.check _ _ _ _ _ _ _ _ hT (BA.args_iadd _ _) (wpC_pure ⟨plainId_quiet BA.plain_iadd _, codeC_builtin (by decide +kernel) BA.entry_iadd ?_⟩))
  rw [Around.under_plainId BA.plain_iadd _]
  dsimp only
  unfold Builtin.«bytearray.__iadd__»
  refine wpC_bindA (wpAny_of_eq (a := (Value.ref a, [Value.bytes c t])) rfl ?_)
  refine wpC_bindA (wpAny_of_eq BA.take_eq ?_)
  dsimp only
  unfold Builtin.Bytes.thenGiveBack
  have rest : wpC (model prog w) A.in1 (do
      if Builtin.Bytes.tooLong ((← Builtin.Bytes.payload (.ref a)).size + c.size) then unsupported "bytearray.__iadd__:memory"
      Builtin.Bytes.write (.ref a) (· ++ c)
      ret (.ref a)) (fun fin s' => match fin with | .done f => (match (Except.ok f : Result) with | .ok (.ret v) => Q v s' | .ok _ => False | .error e => E e s') | .again c' => c'.quiet = true ∧ codeC (model prog w) A c' (fun r s' => match r with | .ok (.ret v) => Q v s' | .ok _ => False | .error e => E e s') s')
      (fun e s' => E e s') s := by
    refine wpC_of ?_
    refine wpAny_bind ?_
    unfold Builtin.Bytes.payload Builtin.Bytes.payload?
    refine wpAny_bind (wpAny_bind (wpAny_load ho ?_))
    refine wpAny_pure (wpAny_pure ?_)
    refine bm_if_false (KBy.tooLong_not hz) ?_
    refine wpAny_bind ?_
    show wpAny _ _ (updateBytearray a (· ++ c)) _ _ _
    unfold updateBytearray
    refine wpAny_bind (wpAny_load ho ?_)
    show wpAny _ _ (update a (Obj.mapBytearray (· ++ c)) >>= fun _ => lookBehind a) _ _ _
    refine wpAny_bind (wpAny_update ho ?_)
    refine wpAny_lookBehind (Heap.get?_update_self (Obj.mapBytearray (· ++ c)) ho rfl) ?_ (wpAny_pure h)
    show (if (b ++ c).size > sizeLine then some "bytearray:memory" else none) = none
    rw [if_neg]
    rw [sizeLine_eq, Array.size_append]
    omega
  by_cases hc : c.isEmpty = true
  · simp only [hc, Bool.not_true, Bool.false_eq_true, if_false]
    exact rest
  · simp only [hc, Bool.not_false, if_true]
    rw [if_neg (show ¬ (Builtin.Bytes.sameRef (Value.ref a) (Value.bytes c t) = true) from Bool.false_ne_true)]
    refine wpC_bind ?_
    unfold Builtin.Bytes.checkResize
    refine wpC_bind (wpC_bind (wpC_exported ?_))
    refine wpC_of (wpAny_bind ?_)
    unfold Builtin.Bytes.exportsOf
    refine wpAny_bind (wpAny_load ho (wpAny_pure (wpAny_pure ?_)))
    rw [if_neg (by decide)]
    exact wpC_pure rest
end
namespace BA
theorem sub_self : isSubtype (.type "bytearray") (.type "bytearray") = pure true := by rw [isSubtype_type]; kernel_rfl
theorem look_new : typeLookup (.type "bytearray") "__new__" = pure (some (.builtin "bytearray.__new__")) := by rw [typeLookup_type, builtinLookup_eq_fast]; kernel_rfl
theorem slot_init : Slot "bytearray" "__init__" "bytearray.__init__" :=
  .of (owner := "bytearray") (n := "__init__") (by rw [typeLookup_type, builtinLookup_eq_fast]; kernel_rfl) (by decide +kernel) (by decide +kernel) (by decide +kernel)
    (by first | exact .inl (by decide +kernel) | exact .inr (by decide +kernel)) (by rw [isSubtype_type]; kernel_rfl)
theorem called : TypeCalled "bytearray" "bytearray.__new__" "bytearray.__init__" :=
  ⟨by decide +kernel, by decide +kernel, ⟨_, _, mro⟩, madeBy_type mro look_new (by decide +kernel), by decide +kernel, sub_self, slot_init⟩
theorem typeCall0 : checkTypeCall "bytearray" ⟨[], []⟩ = pure () := by kernel_rfl
theorem newCall0 : checkBuiltinCall "bytearray.__new__" ⟨[.type "bytearray"], []⟩ = pure () := by kernel_rfl
theorem args_init (a : Value) : argsOk "bytearray.__init__" ⟨[a], []⟩ := by unfold argsOk; kernel_rfl
theorem entry_new : entryFor table "bytearray.__new__" = some Builtin.«list.__new__» := entryFor_alias (id' := "list.__new__") (by kernel_rfl) rfl (by decide +kernel) (by kernel_rfl)
theorem plain_new : plainId "bytearray.__new__" = true := by decide +kernel
theorem plain_init : plainId "bytearray.__init__" = true := by decide +kernel
theorem entry_init : entryFor table "bytearray.__init__" = some Builtin.«bytearray.__init__» := by first | exact entryFor_of_fast (by kernel_rfl) | exact entryFor_of_tree (by kernel_rfl)
set_option maxRecDepth 1000000 in
theorem owner_new : ("bytearray.__new__".splitOn ".__new__").headD "" = "bytearray" := by simp +decide [String.splitOn, String.splitOnAux]
end BA
section
variable {prog : Program} {w : World} {A : Around} {E : Value → Shared → Prop} {s : Shared}
theorem code_ba_new {Q₁ : Value → Shared → Prop}
    (h : Q₁ (.ref s.heap.objs.size) { s with heap := s.heap.push { cls := .type "bytearray", data := .bytearray #[] } }) :
    codeAny (model prog w) A (.call (.builtin "bytearray.__new__") ⟨[.type "bytearray"], []⟩) (wants Q₁ E) s := by
  refine codeAny_of_tree ?_
  show wpAny _ A.in1 (do checkBuiltinCall "bytearray.__new__" ⟨[.type "bytearray"], []⟩; again (.builtin "bytearray.__new__" ⟨[.type "bytearray"], []⟩)) _ _ s
  refine wpAny_bind (wpAny_of_eq BA.newCall0 (wpAny_pure ⟨plainId_quiet BA.plain_new _, codeAny_builtin_stack BA.entry_new rfl fun p st => ?_⟩))
  rw [Around.under_plainId BA.plain_new _]
  have hsub := BA.sub_self
  have hown := BA.owner_new
  obtain ⟨hp, g, d, tk, os⟩ := s
  simp only [hown]
  wp_walk
  exact h
end
namespace BA
theorem look_release : typeLookup (.type "bytearray") "__release_buffer__" = pure (some (.builtin "bytearray.__release_buffer__")) := by rw [typeLookup_type, builtinLookup_eq_fast]; kernel_rfl
theorem bind0 : Builtin.Bytes.bindOptional "bytearray.__init__" "bytearray" ["source", "encoding", "errors"] [] [] = pure [none, none, none] := by kernel_rfl
end BA
section
variable {prog : Program} {w : World} {A : Around} {E : Value → Shared → Prop} {s : Shared} {a : Addr} {b : Array UInt8}
theorem ownRelease_ba {Q : Bool → Shared → Prop} (hT : s.TypeIs (.ref a) "bytearray") (h : Q false s) : wpAny (model prog w) A (Builtin.Bytes.ownRelease (.ref a)) Q E s := by
  unfold Builtin.Bytes.ownRelease Builtin.Bytes.slotIsOwn
  refine wpAny_bind (wpAny_bind (wpAny_specialOf hT BA.look_release ?_))
  dsimp only
  refine bm_if_false (by decide +kernel) ?_
  have key : ∀ x : String, x = "bytearray" → wpAny (model prog w) A (isInstance (.ref a) (.type x)) (fun r s' => wpAny (model prog w) A (pure !r) Q E s') E s := fun x hx => by
    rw [hx]
    exact wpAny_isInstance hT BA.sub_self (wpAny_pure h)
  exact key _ (by decide +kernel)
theorem c_if_false {α : Type} {M : Model} {c : Bool} {a b : Sem α} {Q : α → Shared → Prop} (hc : c = false) (h : wpC M A b Q E s) : wpC M A (if c = true then a else b) Q E s := by
  subst hc
  exact h
theorem c_if_true {α : Type} {M : Model} {c : Bool} {a b : Sem α} {Q : α → Shared → Prop} (hc : c = true) (h : wpC M A a Q E s) : wpC M A (if c = true then a else b) Q E s := by
  subst hc
  exact h
theorem code_ba_init {Q : Value → Shared → Prop} (ho : s.heap.get? a = some { cls := .type "bytearray", data := .bytearray b })
    (h : Q .none { s with heap := s.heap.update a (Obj.mapBytearray fun _ => #[]) }) :
    codeC (model prog w) A (.call (.builtin "bytearray.__init__") ⟨[.ref a], []⟩) (wants Q E) s := by
  have hT := type_ba ho
  refine codeC_of_tree rfl ?_
  show wpC _ A.in1 (do checkBuiltinCall "bytearray.__init__" ⟨[.ref a], []⟩; again (.builtin "bytearray.__init__" ⟨[.ref a], []⟩)) _ _ s
  refine wpC_bindA (BA.slot_init.check _ _ _ _ _ _ _ _ hT (BA.args_init _) (wpC_pure ⟨plainId_quiet BA.plain_init _, codeC_builtin (by decide +kernel) BA.entry_init ?_⟩))
  rw [Around.under_plainId BA.plain_init _]
  (try dsimp only)
  unfold Builtin.«bytearray.__init__»
  refine wpC_bindA (ownRelease_ba hT ?_)
  refine c_if_false rfl ?_
  refine wpC_bindA (wpAny_of_eq BA.bind0 ?_)
  refine wpC_bindA (wpAny_of_eq (a := ()) rfl ?_)
  refine wpC_bindA (wpAny_of_eq (a := ()) rfl ?_)
  refine wpC_bind (wpC_bind (wpC_exported ?_))
  refine wpC_of (wpAny_bind ?_)
  unfold Builtin.Bytes.exportsOf
  refine wpAny_bind (wpAny_load ho (wpAny_pure (wpAny_pure ?_)))
  refine c_if_false rfl ?_
  refine wpC_of (wpAny_bind ?_)
  show wpAny _ _ (updateBytearray a (fun _ => #[])) _ _ _
  unfold updateBytearray
  refine wpAny_bind (wpAny_load ho ?_)
  show wpAny _ _ (update a (Obj.mapBytearray fun _ => #[]) >>= fun _ => lookBehind a) _ _ _
  refine wpAny_bind (wpAny_update ho ?_)
  refine wpAny_lookBehind (Heap.get?_update_self (Obj.mapBytearray fun _ => #[]) ho rfl) ?_ ?_
  · show (if (#[] : Array UInt8).size > sizeLine then some "bytearray:memory" else none) = none
    rw [if_neg]
    exact Nat.not_lt_zero _
  · exact wpAny_pure h
end
theorem codeC_mono {M : Model} {A : Around} {s : Shared} {c : Code} {R R' : Result → Shared → Prop} (h : codeC M A c R s) (hR : ∀ r s, R r s → R' r s) : codeC M A c R' s :=
  fun Γ p hc hΓ hcl => wpCode_mono hR (h Γ p hc hΓ hcl)
section
variable {prog : Program} {w : World} {A : Around} {E : Value → Shared → Prop} {s : Shared} {a : Addr} {b : Array UInt8}
theorem call_bytearray {Q : Value → Shared → Prop}
    (h : Q (.ref s.heap.objs.size) { s with heap := (s.heap.push { cls := .type "bytearray", data := .bytearray #[] }).update s.heap.objs.size (Obj.mapBytearray fun _ => #[]) }) :
    wpC (model prog w) A (call (.type "bytearray") []) Q E s := by
  refine wpC_call (codeC_of_tree rfl ?_)
  show wpC _ _ (callAny (.type "bytearray") _) _ _ _
  refine wpC_pure ⟨Code.quiet_builtin _ (by decide +kernel), codeC_builtin (by decide +kernel) F.entry_type_call ?_⟩
  rw [Around.under_plain (weight_type_call_type "bytearray" [] []) rfl]
  (try dsimp only)
  unfold Builtin.«type.__call__»
  dsimp only
  refine c_if_false (by decide) ?_
  refine c_if_false BA.called.canCreate ?_
  refine wpC_bindA (wpAny_of_eq BA.typeCall0 ?_)
  refine wpC_bindA (wpAny_of_eq BA.mro ?_)
  refine c_if_false rfl ?_
  refine wpC_bindA (wpAny_of_eq BA.called.made ?_)
  dsimp only
  refine wpC_bind (wpC_pure ?_)
  refine wpC_bindA (wpAny_holding (wpAny_call ?_))
  refine codeAny_mono (code_ba_new (E := fun e s' => E e s') (Q₁ := fun v s' => v = .ref s.heap.objs.size ∧ s' = { s with heap := s.heap.push { cls := .type "bytearray", data := .bytearray #[] } }) ⟨rfl, rfl⟩) fun r s₁ hr => ?_
  cases r with
  | error e => exact hr
  | ok fl =>
    cases fl with
    | ret obj =>
      obtain ⟨rfl, rfl⟩ := hr
      have ho : (s.heap.push { cls := .type "bytearray", data := .bytearray #[] }).get? s.heap.objs.size = some { cls := .type "bytearray", data := .bytearray #[] } := Heap.get?_push_size _ rfl
      have hT := type_ba (s := { s with heap := s.heap.push { cls := .type "bytearray", data := .bytearray #[] } }) ho
      refine wpC_bindA (wpAny_isInstance hT BA.sub_self ?_)
      refine c_if_false rfl ?_
      refine wpC_bind (wpC_holding ?_)
      unfold callSpecial?
      refine wpC_bindA (wpAny_specialOf hT BA.slot_init.lookup ?_)
      dsimp only
      refine wpC_holding (wpC_bindA (wpAny_of_eq (BA.slot_init.bind _) ?_))
      dsimp only
      refine wpC_bind (wpC_call ?_)
      refine codeC_mono (code_ba_init (E := fun e s' => E e s') (Q := fun v s' => v = .none ∧ s' = { s with heap := (s.heap.push { cls := .type "bytearray", data := .bytearray #[] }).update s.heap.objs.size (Obj.mapBytearray fun _ => #[]) }) ho ⟨rfl, rfl⟩) fun r₂ s₂ hr₂ => ?_
      cases r₂ with
      | error e => exact hr₂
      | ok fl₂ =>
        cases fl₂ with
        | ret r =>
          obtain ⟨rfl, rfl⟩ := hr₂
          refine wpC_pure ?_
          dsimp only
          exact c_if_false rfl (wpC_pure h)
        | _ => exact hr₂.elim
    | _ => exact hr.elim
end

namespace BA
theorem no_bytes : typeLookup (.type "bytearray") "__bytes__" = pure none := by rw [typeLookup_type, builtinLookup_eq_fast]; kernel_rfl
theorem no_idx : typeLookup (.type "bytearray") "__index__" = pure none := by rw [typeLookup_type, builtinLookup_eq_fast]; kernel_rfl
theorem look_buffer : typeLookup (.type "bytearray") "__buffer__" = pure (some (.builtin "bytearray.__buffer__")) := by rw [typeLookup_type, builtinLookup_eq_fast]; kernel_rfl
end BA
section
variable {prog : Program} {w : World} {A : Around} {E : Value → Shared → Prop} {s : Shared} {a : Addr} {b : Array UInt8}
theorem ownBuffer_ba {Q : Bool → Shared → Prop} (hT : s.TypeIs (.ref a) "bytearray") (h : Q true s) : wpAny (model prog w) A (Builtin.Bytes.slotIsOwn (.ref a) "__buffer__") Q E s := by
  unfold Builtin.Bytes.slotIsOwn
  refine wpAny_bind (wpAny_specialOf hT BA.look_buffer ?_)
  dsimp only
  refine bm_if_false (by decide +kernel) ?_
  have key : ∀ x : String, x = "bytearray" → wpAny (model prog w) A (isInstance (.ref a) (.type x)) Q E s := fun x hx => by
    rw [hx]
    exact wpAny_isInstance hT BA.sub_self h
  exact key _ (by decide +kernel)
theorem bytes_new_ba {Q : Value → Shared → Prop} (ho : s.heap.get? a = some { cls := .type "bytearray", data := .bytearray b }) (hz : b.size ≤ sizeLine)
    (h : Q (.bytes b s.toks) { s with toks := s.toks + 1 }) :
    codeAny (model prog w) A (.call (.builtin "bytes.__new__") ⟨[.type "bytes", .ref a], []⟩) (wants Q E) s := by
  have hT := type_ba ho
  refine codeAny_of_tree ?_
  show wpAny _ A.in1 (do checkBuiltinCall "bytes.__new__" ⟨[.type "bytes", .ref a], []⟩; again (.builtin "bytes.__new__" ⟨[.type "bytes", .ref a], []⟩)) _ _ s
  refine wpAny_bind (wpAny_of_eq (F.bm_newCall _) (wpAny_pure ⟨plainId_quiet F.bm_plain _, codeAny_builtin F.bm_entry ?_⟩))
  rw [Around.under_plainId F.bm_plain _]
  unfold Builtin.«bytes.__new__»
  refine wpAny_bind (wpAny_of_eq (a := true) rfl ?_)
  refine bm_if_false rfl ?_
  refine wpAny_bind (wpAny_of_eq F.bm_sub ?_)
  refine bm_if_false rfl ?_
  refine wpAny_bind (wpAny_of_eq (F.bm_bind _) ?_)
  refine wpAny_bind (wpAny_of_eq (a := ()) rfl ?_)
  refine wpAny_bind (wpAny_of_eq (a := ()) rfl ?_)
  refine bm_if_false rfl ?_
  refine wpAny_bind (wpAny_specialOf hT BA.no_bytes ?_)
  refine wpAny_bind (wpAny_bind ?_)
  show wpAny _ _ (load a >>= _) _ _ _
  refine wpAny_bind (wpAny_load ho ?_)
  refine wpAny_pure (wpAny_pure ?_)
  refine bm_if_false rfl ?_
  refine wpAny_bind (wpAny_specialOf hT BA.no_idx ?_)
  refine bm_if_true rfl ?_
  first
    | show wpAny _ _ (Builtin.Bytes.buffer? "bytes.__new__" (.ref a) true >>= _) _ _ _
    | (refine wpAny_bind ?_; show wpAny _ _ (Builtin.Bytes.buffer? "bytes.__new__" (.ref a) true >>= _) _ _ _)
  refine wpAny_bind ?_
  unfold Builtin.Bytes.buffer?
  refine wpAny_bind (wpAny_specialOf hT BA.look_buffer ?_)
  refine wpAny_bind (ownBuffer_ba hT ?_)
  refine bm_if_false rfl ?_
  refine wpAny_bind (wpAny_specialOf hT BA.look_buffer ?_)
  refine wpAny_bind (ownRelease_ba hT ?_)
  refine bm_if_false rfl ?_
  refine wpAny_bind ?_
  unfold Builtin.Bytes.payload Builtin.Bytes.payload?
  refine wpAny_bind (wpAny_bind (wpAny_load ho ?_))
  refine wpAny_pure (wpAny_pure (wpAny_pure ?_))
  dsimp only
  refine wpAny_bind (wpAny_rule (wpAny_bind (wpAny_mkBytes ?_ hz)))
  show wpAny _ _ (if (Value.type "bytes" == Value.type "bytes") = true then _ else _) _ _ _
  refine bm_if_true (by decide) ?_
  first
    | exact wpAny_pure h
    | exact wpAny_bind (wpAny_pure (wpAny_pure h))
theorem call_bytes_ba {Q : Value → Shared → Prop} (ho : s.heap.get? a = some { cls := .type "bytearray", data := .bytearray b }) (hz : b.size ≤ sizeLine)
    (h : Q (.bytes b s.toks) { s with toks := s.toks + 1 }) : wpAny (model prog w) A (call (.type "bytes") [.ref a]) Q E s := by
  refine callType_codes (Q₁ := fun obj s₁ => s₁.TypeIs obj "bytes" ∧ Q obj s₁) F.bm_called (F.bm_typeCall _) F.entry_object_init
    (bytes_new_ba ho hz ⟨PySem.W.typeIs_bytes _ _ _, h⟩) fun obj s₁ h₁ => ?_
  exact ⟨h₁.1, F.args_object_init_2 obj _, object_init_meets F.bm_called.init.lookup F.bm_called.made (by decide) prog w A.in1 _ s₁ ⟨h₁.1, rfl, h₁.2⟩⟩
end
noncomputable def Slc (x : Str) (i j : Int) (y : Str) : Prop := Txt.slice x (some i) (some j) = y
section
variable {prog : Program} {w : World} {A : Around} {E : Value → Shared → Prop} {s : Shared} {value slice : Expr} {x y : Str} {t : Tok} {h₀ : Heap} {L : Addr} {m : Str → Option Value} {news : List (Addr × Obj)} {Q : Value → Shared → Prop}
theorem slc_ss {i j i' j' : Int} {ui uj : Tok} (hF : Fr h₀ L s.heap m) (hN : News h₀ L s.heap news) (hy : Slc x i j y) (hi : i' = i) (hj : j' = j) (hsz : x.length ≤ 100000) (h : ∀ h' t' k, Fr h₀ L h' m → News h₀ L h' news → Q (.str y t') { s with heap := h', toks := k })
    (hs : subscripted slice false (.str x t) (.ref s.heap.objs.size) = operate [.ref s.heap.objs.size, .str x t] (getItem (.str x t) (.ref s.heap.objs.size)) := by with_unfolding_all rfl)
    (ht : ∀ r, letTemporaryGo value (.str x t) r = pure () := by intro _; with_unfolding_all rfl) :
    wpAny (model prog w) A (subscriptTail value slice (.str x t) (.ref s.heap.objs.size)) Q E { s with heap := s.heap.push { cls := .type "slice", data := .fields #[.int i' ui, .int j' uj, .none] } } := by
  subst hi; subst hj
  refine slice_strN_ss hF hN (fun h' t' k a b => ?_) hs ht (by size_fits)
  rw [show Txt.slice x (some i') (some j') = y from hy]
  exact h h' t' k a b
end
section
variable {prog : Program} {w : World} {A : Around} {E : Value → Shared → Prop} {s : Shared} {h₀ : Heap} {L T : Addr} {m : Map} {news : Ledger} {a b k : Int} {ta tb u : Tok} {Q : Value → Shared → Prop}
theorem notin2 {c : Bool} (N : News h₀ L s.heap news) (hm : (T, ({ cls := .type "tuple", data := .seq #[.int a ta, .int b tb] } : Obj)) ∈ news) (hc : (!([a, b].any (· == k))) = c) (h : Q (.bool c) s) : wpAny (model prog w) A (compareOp .NotIn (.int k u) (.ref T)) Q E s :=
  notin_tuple_ints (News.isTup N hm) (.cons _ _ (.cons _ _ .nil)) (by rw [hc]; exact h)
theorem notin2_t (N : News h₀ L s.heap news) (hm : (T, ({ cls := .type "tuple", data := .seq #[.int a ta, .int b tb] } : Obj)) ∈ news) (h1 : k ≠ a) (h2 : k ≠ b) (h : Q (.bool true) s) : wpAny (model prog w) A (compareOp .NotIn (.int k u) (.ref T)) Q E s :=
  notin2 N hm (by simp only [List.any_cons, List.any_nil, beq_eq_false_iff_ne.mpr (Ne.symm h1), beq_eq_false_iff_ne.mpr (Ne.symm h2)]; rfl) h
theorem notin2_f (N : News h₀ L s.heap news) (hm : (T, ({ cls := .type "tuple", data := .seq #[.int a ta, .int b tb] } : Obj)) ∈ news) (h1 : k = a ∨ k = b) (h : Q (.bool false) s) : wpAny (model prog w) A (compareOp .NotIn (.int k u) (.ref T)) Q E s :=
  notin2 N hm (by rcases h1 with rfl | rfl <;> simp) h
end
noncomputable def Hx (n : Int) (y : Str) : Prop := baseText "0x" 16 n = y
noncomputable def Sln (x : Str) (i : Int) (y : Str) : Prop := Txt.slice x (some i) none = y
section
variable {prog : Program} {w : World} {A : Around} {E : Value → Shared → Prop} {s : Shared} {value slice : Expr} {n : Int} {x y : Str} {t : Tok} {h₀ : Heap} {L : Addr} {m : Str → Option Value} {news : List (Addr × Obj)} {Q : Value → Shared → Prop}
theorem hex_f (h : Hx n y) (hy : y.length ≤ 1000) (q : Q (.str y s.toks) { s with toks := s.toks + 1 }) : wpAny (model prog w) A (call (.builtin "hex") [.int n t]) Q E s := by
  obtain rfl := show baseText "0x" 16 n = y from h
  exact P.hex_of_int q (by rw [sizeLine_eq]; omega)
theorem sln {i : Int} {ui : Tok} (hF : Fr h₀ L s.heap m) (hN : News h₀ L s.heap news) (hy : Sln x i y) (hsz : x.length ≤ 100000) (h : ∀ h' t' k, Fr h₀ L h' m → News h₀ L h' news → Q (.str y t') { s with heap := h', toks := k })
    (hs : subscripted slice false (.str x t) (.ref s.heap.objs.size) = operate [.ref s.heap.objs.size, .str x t] (getItem (.str x t) (.ref s.heap.objs.size)) := by with_unfolding_all rfl)
    (ht : ∀ r, letTemporaryGo value (.str x t) r = pure () := by intro _; with_unfolding_all rfl) :
    wpAny (model prog w) A (subscriptTail value slice (.str x t) (.ref s.heap.objs.size)) Q E { s with heap := s.heap.push { cls := .type "slice", data := .fields #[.int i ui, .none, .none] } } := by
  refine slice_strN_sn hF hN (fun h' t' k a b => ?_) hs ht (by size_fits)
  rw [show Txt.slice x (some i) none = y from hy]
  exact h h' t' k a b
end
theorem bv_len : bootBuiltins (Str.ofString "len") = some (Value.builtin "len") := by with_unfolding_all rfl
theorem bv_hex : bootBuiltins (Str.ofString "hex") = some (Value.builtin "hex") := by with_unfolding_all rfl
theorem bv_chr : bootBuiltins (Str.ofString "chr") = some (Value.builtin "chr") := by with_unfolding_all rfl
theorem bv_ord : bootBuiltins (Str.ofString "ord") = some (Value.builtin "ord") := by with_unfolding_all rfl
theorem bv_min : bootBuiltins (Str.ofString "min") = some (Value.builtin "min") := by with_unfolding_all rfl
theorem bv_max : bootBuiltins (Str.ofString "max") = some (Value.builtin "max") := by with_unfolding_all rfl
theorem bv_str : bootBuiltins (Str.ofString "str") = some (Value.type "str") := by with_unfolding_all rfl
theorem bv_int : bootBuiltins (Str.ofString "int") = some (Value.type "int") := by with_unfolding_all rfl
theorem bv_bytes : bootBuiltins (Str.ofString "bytes") = some (Value.type "bytes") := by with_unfolding_all rfl
theorem bv_bytearray : bootBuiltins (Str.ofString "bytearray") = some (Value.type "bytearray") := by with_unfolding_all rfl
theorem bv_range : bootBuiltins (Str.ofString "range") = some (Value.type "range") := by with_unfolding_all rfl
theorem bv_zip : bootBuiltins (Str.ofString "zip") = some (Value.type "zip") := by with_unfolding_all rfl
theorem bv_list : bootBuiltins (Str.ofString "list") = some (Value.type "list") := by with_unfolding_all rfl
section
variable {prog : Program} {w : World} {A : Around} {E : Value → Shared → Prop} {s : Shared} {h₀ : Heap} {L T : Addr} {m : Map} {news : Ledger} {a b k : Int} {ta tb u : Tok} {n : Nat} {Q : Value → Shared → Prop}
theorem in2l {c : Bool} (N : News h₀ L s.heap news) (hm : (T, listOf #[.int a ta, .int b tb] n) ∈ news) (hc : ([a, b].any (· == k)) = c) (h : Q (.bool c) s) : wpAny (model prog w) A (compareOp .In (.int k u) (.ref T)) Q E s :=
  in_list_ints (vs := [.int a ta, .int b tb]) (News.isList N hm) (.cons _ _ (.cons _ _ .nil)) (by rw [hc]; exact h)
theorem any2_f (h1 : k ≠ a) (h2 : k ≠ b) : ([a, b].any (· == k)) = false := by simp only [List.any_cons, List.any_nil, beq_eq_false_iff_ne.mpr (Ne.symm h1), beq_eq_false_iff_ne.mpr (Ne.symm h2)]; rfl
theorem any2_t (h1 : k = a ∨ k = b) : ([a, b].any (· == k)) = true := by rcases h1 with rfl | rfl <;> simp
theorem notin2l {c : Bool} (N : News h₀ L s.heap news) (hm : (T, listOf #[.int a ta, .int b tb] n) ∈ news) (hc : (!([a, b].any (· == k))) = c) (h : Q (.bool c) s) : wpAny (model prog w) A (compareOp .NotIn (.int k u) (.ref T)) Q E s :=
  notin_list_ints (vs := [.int a ta, .int b tb]) (News.isList N hm) (.cons _ _ (.cons _ _ .nil)) (by rw [hc]; exact h)
theorem len_l {vs : List Value} (N : News h₀ L s.heap news) (hm : (T, listOf vs.toArray n) ∈ news) (hz : vs.length ≤ 1000000) (h : Q (.int vs.length (s.toks + 1)) { s with toks := s.toks + 1 + 1 }) : wpAny (model prog w) A (call (.builtin "len") [.ref T]) Q E s :=
  PyProof.Rows.len_list (News.isList N hm) (by rw [List.size_toArray]; omega) (by simpa using h)
theorem item_l {value slice : Expr} {vs : List Value} {x : Value} (N : News h₀ L s.heap news) (hm : (T, listOf vs.toArray n) ∈ news) (h0 : 0 ≤ k) (hfit : k < 2 ^ 63) (hx : vs[k.toNat]? = some x) (h : Q x s)
    (hs : subscripted slice false (.ref T) (.int k u) = operate [.ref T, .int k u] (getItem (.ref T) (.int k u)) := by with_unfolding_all rfl) (hg : ∀ r, letTemporaryGo value (.ref T) r = pure () := by intro _; with_unfolding_all rfl) :
    wpAny (model prog w) A (subscriptTail value slice (.ref T) (.int k u)) Q E s := item_listL (News.isList N hm) h0 hfit hx h hs hg
end
noncomputable abbrev baO (b : Array UInt8) : Obj := { cls := .type "bytearray", data := .bytearray b }
section
variable {prog : Program} {w : World} {A : Around} {E : Value → Shared → Prop} {s : Shared} {h₀ : Heap} {L : Addr} {m : Map} {news : Ledger}
/-- `found += ..` in the ledger. -/
theorem ba_add {D : Addr} {b c : Array UInt8} {t : Tok} {own rest : Ledger} {Q : Value → Shared → Prop} (F : Fr h₀ L s.heap m) (N : News h₀ L s.heap (own ++ (D, baO b) :: rest)) (hown : ∀ p ∈ own, p.1 ≠ D) (hap : ∀ p ∈ rest, p.1 ≠ D) (hz : b.size + c.size ≤ 16777216)
    (h : ∀ h', Fr h₀ L h' m → News h₀ L h' (own ++ (D, baO (b ++ c)) :: rest) → Q (.ref D) { s with heap := h' }) : wpC (model prog w) A (inplaceOp .Add (.ref D) (.bytes c t)) Q E s := by
  have hm := N _ (List.mem_append_right own (List.Mem.head rest))
  have hs : Heap.SameBut D s.heap (s.heap.update D (Obj.mapBytearray (· ++ c))) := Heap.SameBut.update ..
  exact iadd_ba hm.1 hz (h _ (F.change hs hm.2.1 hm.2.2) (N.setIn hown hap hs (Heap.get?_update_self (Obj.mapBytearray (· ++ c)) hm.1 rfl)))
/-- `bytearray()`. -/
theorem ba_new {Q : Value → Shared → Prop} (F : Fr h₀ L s.heap m) (N : News h₀ L s.heap news)
    (h : ∀ D h', (∀ p ∈ news, p.1 < D) → Fr h₀ L h' m → News h₀ L h' ((D, baO #[]) :: news) → Q (.ref D) { s with heap := h' }) : wpC (model prog w) A (call (.type "bytearray") []) Q E s := by
  have F1 := F.push (baO #[])
  have N1 := N.push F (baO #[])
  have hm := N1 _ (List.Mem.head news)
  have hs : Heap.SameBut s.heap.objs.size (s.heap.push (baO #[])) ((s.heap.push (baO #[])).update s.heap.objs.size (Obj.mapBytearray fun _ => #[])) := Heap.SameBut.update ..
  have hl : ∀ p ∈ news, p.1 < s.heap.objs.size := fun p hp => Heap.lt_size (N p hp).1
  exact call_bytearray (h _ _ hl (F1.change hs hm.2.1 hm.2.2) (News.setIn (own := []) N1 (fun _ h => by cases h) (fun p hp => Nat.ne_of_lt (hl p hp)) hs (Heap.get?_update_self (Obj.mapBytearray fun _ => #[]) hm.1 rfl)))
/-- `bytes(found)`. -/
theorem bytes_baN {D : Addr} {b : Array UInt8} {Q : Value → Shared → Prop} (N : News h₀ L s.heap news) (hm : (D, baO b) ∈ news) (hz : b.size ≤ 1000) (h : Q (.bytes b s.toks) { s with toks := s.toks + 1 }) : wpAny (model prog w) A (call (.type "bytes") [.ref D]) Q E s :=
  call_bytes_ba (N _ hm).1 (by rw [sizeLine_eq]; omega) h
end
section
variable {M : Model} {A : Around} {E : Value → Shared → Prop} {s : Shared} {env : Env} {pos : Pos}
theorem evalArgsC_nil {f : Value} {Q : Args → Shared → Prop} (h : Q ⟨[], []⟩ s) : wpC M A (evalArgs f true [] []) Q E s := wpC_of (evalArgs_nil3 h)
theorem callWithC_type {T : String} {args : List (Bool × Sem Value)} {Q : Value → Shared → Prop} (hplain : args.any (·.1) = false)
    (h : wpC M A (evalArgs (.type T) true args []) (fun a s₁ => wpC M A (call (.type T) a.pos a.kw) Q E s₁) E s) : wpC M A (callWith pos (.type T) [] args []) Q E s := by
  unfold callWith
  refine wpC_bind (wpC_holding (wpC_mono h (fun a s₁ h₁ => wpC_bind (wpC_standAt ?_)) fun _ _ x => x))
  simp only [hplain, List.any_nil, Bool.or_false]
  refine wpC_bind (wpC_pure ?_)
  exact wpC_bind (wpC_mono h₁ (fun r s₂ hr => wpC_of (wpAny_bind (wpAny_holding (wpAny_point (wpAny_pure hr))))) fun _ _ x => x)
theorem callWithC_type0 {T : String} {Q : Value → Shared → Prop} (h : wpC M A (call (.type T) []) Q E s) : wpC M A (callWith pos (.type T) [] (backTo pos (starEach [] env)) []) Q E s :=
  callWithC_type rfl (evalArgsC_nil h)
theorem wpC_Tuple2 {e1 : Expr} {rest : List Expr} {k : Nat} {Q : Value → Shared → Prop}
    (h : wpC M A (spliced (backTo pos (starEach (e1 :: rest) env))) (fun vs s₁ => wpAny M A (newTuple vs) Q E s₁) E s) : wpC M A (eval (.Tuple (e1 :: rest) k pos) env) Q E s := by
  show wpC M A (do standAt pos; newTuple (← spliced (backTo pos (starEach (e1 :: rest) env)))) Q E s
  exact wpC_bind (wpC_standAt (wpC_bind (wpC_mono h (fun _ _ x => wpC_of x) fun _ _ x => x)))
theorem wpC_Assign_swapped {elts : List Expr} {k : Nat} {tpos : Pos} {value : Expr} {names : List Str} {Q : Flow → Shared → Prop}
    (h : wpC M A (eval value env) (fun v s₁ => wpAny M A (unpackItems v names.length none) (fun items s₂ =>
      wpAny M A (assignInOrder (names.reverse.map fun n => bindName env n) items.reverse) (fun _ => Q .next) E s₂) E s₁) E s)
    (hs : swapsWithSole [.Tuple elts k tpos] value pos.line env = pure false) (hw : swappedStores [.Tuple elts k tpos] value env = pure (some names)) :
    wpC M A (exec (.Assign [.Tuple elts k tpos] value pos) env) Q E s := by
  rw [exec_Assign]
  refine wpC_bind (wpC_standAt ?_)
  rw [hs]
  refine wpC_bind (wpC_pure ?_)
  rw [if_neg (by decide)]
  refine wpC_bind (wpC_mono h (fun v s₁ h₁ => ?_) fun _ _ x => x)
  rw [hw]
  refine wpC_bind (wpC_pure ?_)
  show wpC M A (do rule "assign.swapped-stores"; let items ← unpackItems v names.length none; assignInOrder (names.reverse.map fun n => bindName env n) items.reverse; pure .next) Q E s₁
  exact wpC_of (wpAny_bind (wpAny_rule (wpAny_bind (wpAny_mono h₁ (fun items s₂ h₂ => wpAny_bind (wpAny_mono h₂ (fun _ _ x => wpAny_pure x) fun _ _ x => x)) fun _ _ x => x))))
theorem wpC_execs_consA {st : Stmt} {rest : List Stmt} {Q : Flow → Shared → Prop}
    (h : wpAny M A (exec st env) (fun f s' => match f with | .next => wpC M A (execs rest env) Q E s' | f => Q f s') E s) : wpC M A (execs (st :: rest) env) Q E s := wpC_execs_cons (wpC_of h)
theorem wpC_For {target : Expr} {iter : Expr} {body orelse : List Stmt} {Q : Flow → Shared → Prop}
    (h : wpAny M A (eval iter env) (fun x s₁ => wpAny M A (pyIter x) (fun it s₂ =>
      codeC M A (.forLoop target it body orelse env) (fun r s' => match r with | .ok f => Q f s' | .error e => cameBackBy M A env E e s') s₂) E s₁) E s)
    (hs : ∀ x, foldedSetIterable iter env x = pure x := by intro _; rfl) : wpC M A (exec (.For target iter body orelse pos) env) Q E s := by
  rw [exec_For]
  exact wpC_bind (wpC_standAt (wpC_bindA (wpAny_mono h (fun x s₁ h₁ => wpC_bindA (wpAny_of_eq (hs x) (wpC_bind (wpC_standAt (wpC_bindA (wpAny_holding (wpAny_mono h₁ (fun it s₂ h₂ => wpC_runOwn h₂) fun _ _ x => x))))))) fun _ _ x => x)))
end
section
variable {prog : Program} {w : World} {A : Around} {s : Shared} {env : Env}
/-- The turns of a for over an iterator that the ledger tells. -/
theorem forC {σ : Type} {h₀ : Heap} {x : Str} {px : Pos} {body : List Stmt} {I : Addr} {n : Nat} {P : Nat → Value → Prop} {St : Nat → Heap → Prop} {itO : Nat → Obj} {m₀ : Map} {news₀ : Ledger} {Q : Flow → Shared → Prop}
    (W : Walks prog w A I [I] [I] n P St) (hst : ∀ i h, St i h ↔ h.get? I = some (itO i))
    (hx : env.kindOf x = some .local) (hp : (env.scope.kind == .class || (env.scope.kind == .module && env.locals != env.globals)) = false)
    (J : Nat → σ → Map → Ledger → Prop) (c₀ : σ)
    (F : Fr h₀ env.locals s.heap m₀) (N : News h₀ env.locals s.heap ((I, itO 0) :: news₀)) (h0 : J 0 c₀ m₀ news₀) (hI : ∀ i c m nw, J i c m nw → ∀ p ∈ nw, p.1 ≠ I)
    (turn : ∀ i v c m nw h tk, i < n → P i v → J i c m nw → Fr h₀ env.locals h (fun y => if y = x then some v else m y) → News h₀ env.locals h ((I, itO (i + 1)) :: nw) →
      wpC (model prog w) A (execs body env) (fun f s' => match f with
        | .next => ∃ h' tk' c' m' nw', s' = { s with heap := h', toks := tk' } ∧ Fr h₀ env.locals h' m' ∧ News h₀ env.locals h' ((I, itO (i + 1)) :: nw') ∧ J (i + 1) c' m' nw'
        | .ret v => Q (.ret v) s'
        | _ => False) NoE { s with heap := h, toks := tk })
    (done : ∀ c m nw h tk, J n c m nw → Fr h₀ env.locals h m → News h₀ env.locals h nw → Q .next { s with heap := h, toks := tk }) :
    codeC (model prog w) A (.forLoop (.Name x px) (.ref I) body [] env) (fun r s' => match r with | .ok f => Q f s' | .error e => cameBackBy (model prog w) A env NoE e s') s := by
  have loop : ∀ k i c m nw h tk, k = n - i → i ≤ n → J i c m nw → Fr h₀ env.locals h m → News h₀ env.locals h ((I, itO i) :: nw) →
      codeC (model prog w) A (.forLoop (.Name x px) (.ref I) body [] env) (fun r s' => match r with | .ok f => Q f s' | .error e => cameBackBy (model prog w) A env NoE e s') { s with heap := h, toks := tk } := by
    intro k
    induction k with
    | zero =>
      intro i c m nw h tk hk hi hJ F₁ N₁
      obtain rfl : i = n := by omega
      refine codeC_of_tree rfl ?_
      show wpC _ A ((forTurn (.Name x px) (.ref I) body [] env).onRaise (fun x => do noteFrame x env; theTreesLotGoes x)) _ _ _
      refine wpC_onRaise (wpC_mono (Q := fun fin s' => match fin with | .done f => Q f s' | .again c' => c'.quiet = true ∧ codeC (model prog w) A c' (fun r s' => match r with | .ok f => Q f s' | .error e => cameBackBy (model prog w) A env NoE e s') s') (E := NoE) ?_ (fun _ _ x => x) fun _ _ x => x.elim)
      simp only [forTurn]
      have hN := N₁ _ (.head _)
      refine wpC_bind (wpC_standAt (wpC_bindA (wpAny_onRaise (W.done { s with heap := h, toks := tk } _ _ ((hst i h).mpr hN.1) fun h₁ tk₁ hk₁ => ?_))))
      refine wpC_pure ⟨rfl, codeC_of (codeAny_block (wpAny_execs_nil ?_))⟩
      exact done c m nw h₁ tk₁ hJ ⟨F₁.ns.at' fun o e => hk₁ _ o (fun e' => hN.2.1 (List.mem_singleton.mp e').symm) e, fun b o e => hk₁ b o (fun e' => by rw [List.mem_singleton.mp e', hN.2.2] at e; cases e) (F₁.keep b o e), F₁.above⟩
        fun p hp => ⟨hk₁ _ _ (fun e' => hI i c m nw hJ p hp (List.mem_singleton.mp e')) (N₁ p (.tail _ hp)).1, (N₁ p (.tail _ hp)).2⟩
    | succ k ih =>
      intro i c m nw h tk hk hi hJ F₁ N₁
      refine codeC_of_tree rfl ?_
      show wpC _ A ((forTurn (.Name x px) (.ref I) body [] env).onRaise (fun x => do noteFrame x env; theTreesLotGoes x)) _ _ _
      refine wpC_onRaise (wpC_mono (Q := fun fin s' => match fin with | .done f => Q f s' | .again c' => c'.quiet = true ∧ codeC (model prog w) A c' (fun r s' => match r with | .ok f => Q f s' | .error e => cameBackBy (model prog w) A env NoE e s') s') (E := NoE) ?_ (fun _ _ x => x) fun _ _ x => x.elim)
      simp only [forTurn]
      have hN := N₁ _ (.head _)
      refine wpC_bind (wpC_standAt (wpC_bindA (wpAny_onRaise (W.item i { s with heap := h, toks := tk } _ _ (by omega) ((hst i h).mpr hN.1) fun v h₁ tk₁ hP hst₁ hk₁ => ?_))))
      have F2 : Fr h₀ env.locals h₁ m := ⟨F₁.ns.at' fun o e => hk₁ _ o (fun e' => hN.2.1 (List.mem_singleton.mp e').symm) e, fun b o e => hk₁ b o (fun e' => by rw [List.mem_singleton.mp e', hN.2.2] at e; cases e) (F₁.keep b o e), F₁.above⟩
      have N2 : News h₀ env.locals h₁ ((I, itO (i + 1)) :: nw) := fun p hp => by
        rcases List.mem_cons.mp hp with rfl | hp
        · exact ⟨(hst _ _).mp hst₁, hN.2⟩
        · exact ⟨hk₁ _ _ (fun e' => hI i c m nw hJ p hp (List.mem_singleton.mp e')) (N₁ p (.tail _ hp)).1, (N₁ p (.tail _ hp)).2⟩
      refine wpC_bindA (wpAny_of_eq (a := ()) rfl ?_)
      refine wpC_bindA (wpAny_assign_Name (wpAny_storeName_local hx F2.ns (fun h₂ hn₂ hs₂ => ?_) hp))
      refine wpC_bind (wpC_mono (turn i v c m nw h₂ (tk₁ + 1) (by omega) hP hJ (F2.set hn₂ hs₂) (N2.set hs₂)) (fun f s₃ h₃ => ?_) fun _ _ x => x)
      cases f with
      | ret v => exact wpC_pure h₃
      | brk => exact h₃.elim
      | cont => exact h₃.elim
      | next =>
        obtain ⟨h', tk', c', m', nw', rfl, F', N', hJ'⟩ := h₃
        exact wpC_pure ⟨rfl, ih (i + 1) c' m' nw' h' tk' (by omega) (by omega) hJ' F' N'⟩
  exact loop n 0 c₀ m₀ news₀ s.heap s.toks (by omega) (Nat.zero_le _) h0 F N
end
/-! A contract is shown at a counterexample, if there is one: then no variable stands in the terms. -/
noncomputable def cex {α : Type} (ne : Nonempty α) (P : α → Prop) : α := @Classical.epsilon α ne fun x => ¬ P x
theorem cex_all {α : Type} {ne : Nonempty α} {P : α → Prop} (h : P (cex ne P)) (x : α) : P x :=
  Classical.byContradiction fun hx => (Classical.epsilon_spec (p := fun x => ¬ P x) ⟨x, hx⟩) h
noncomputable def wld : World := { draws := fun _ _ => 0, params := { strHash := fun _ => 0, shareClass := fun _ => 0, mergeTok := fun t => t, idOf := fun _ => 0, idOfShared := fun _ _ => 0, followText := fun _ => false, idOfImm := fun _ => 0 } }
structure FD where
  mean : ExcName → Option Value
  mg : Str → Option Value
  mb : Str → Option Value
  dp : Nat
  un : Nat
  gd : Option (List Code)
  outer : List Env
  A₀ : Around
  base : Heap
  g : Heap
  L : Addr
  s : Shared
  Q : Flow → Shared → Prop
theorem fd_ne : Nonempty FD := ⟨⟨fun _ => none, fun _ => none, fun _ => none, 0, 0, none, [], callerA, default, default, 0, (start PRG).1, fun _ _ => True⟩⟩
noncomputable def BdAt (w : World) (qual : Str) (scope : Scope) (f : Addr) (cdv : Value) (body : List Stmt) (m : Str → Option Value) (news : Ledger) (D : Nat) (R : Ok → Prop) (d : FD) : Prop :=
  Below d.A₀ d.base d.outer d.g → Fr d.g d.L d.s.heap m → (Mine.fr.heap_1 w.params).In d.g → News d.g d.L d.s.heap news → Top Mine.view LO d.mean d.mg d.mb d.g →
    d.dp + D < recursionLimit → d.un + 8 * D < cLine →
    R (fun v news' => ∀ h' tk' m', Fr d.g d.L h' m' → News d.g d.L h' news' → d.Q (.ret v) { d.s with heap := h', toks := tk' }) →
    wpAny (model PRG w) (ktrTop d.dp d.un d.gd qual scope d.L f cdv [] d.outer) (execs body (envOf qual scope d.L f cdv)) d.Q NoE d.s
noncomputable def frm (w : World) (qual : Str) (scope : Scope) (f : Addr) (cdv : Value) (body : List Stmt) (m : Str → Option Value) (news : Ledger) (D : Nat) (R : Ok → Prop) : FD := cex fd_ne (BdAt w qual scope f cdv body m news D R)
theorem bd_eps {w : World} {qual : Str} {scope : Scope} {f : Addr} {cdv : Value} {body : List Stmt} {m : Str → Option Value} {news : Ledger} {D : Nat} {R : Ok → Prop} (h : BdAt w qual scope f cdv body m news D R (frm w qual scope f cdv body m news D R)) : Bd w qual scope f cdv body m news D R :=
  fun mean mg mb dp un gd outer A₀ base g L s Q => cex_all (ne := fd_ne) h ⟨mean, mg, mb, dp, un, gd, outer, A₀, base, g, L, s, Q⟩
noncomputable def BdCAt (w : World) (qual : Str) (scope : Scope) (f : Addr) (cdv : Value) (body : List Stmt) (m : Str → Option Value) (news : Ledger) (D : Nat) (R : Ok → Prop) (d : FD) : Prop :=
  Below d.A₀ d.base d.outer d.g → Fr d.g d.L d.s.heap m → (Mine.fr.heap_1 w.params).In d.g → News d.g d.L d.s.heap news → Top Mine.view LO d.mean d.mg d.mb d.g →
    d.dp + D < recursionLimit → d.un + 8 * D < cLine →
    R (fun v news' => ∀ h' tk' m', Fr d.g d.L h' m' → News d.g d.L h' news' → d.Q (.ret v) { d.s with heap := h', toks := tk' }) →
    wpC (model PRG w) (ktrTop d.dp d.un d.gd qual scope d.L f cdv [] d.outer) (execs body (envOf qual scope d.L f cdv)) d.Q NoE d.s
noncomputable def frmC (w : World) (qual : Str) (scope : Scope) (f : Addr) (cdv : Value) (body : List Stmt) (m : Str → Option Value) (news : Ledger) (D : Nat) (R : Ok → Prop) : FD := cex fd_ne (BdCAt w qual scope f cdv body m news D R)
theorem bdC_eps {w : World} {qual : Str} {scope : Scope} {f : Addr} {cdv : Value} {body : List Stmt} {m : Str → Option Value} {news : Ledger} {D : Nat} {R : Ok → Prop} (h : BdCAt w qual scope f cdv body m news D R (frmC w qual scope f cdv body m news D R)) : BdC w qual scope f cdv body m news D R :=
  fun mean mg mb dp un gd outer A₀ base g L s Q => cex_all (ne := fd_ne) h ⟨mean, mg, mb, dp, un, gd, outer, A₀, base, g, L, s, Q⟩
theorem units_lt {dp un D : Nat} {gd : Option (List Code)} {cn : Str} {cs : Scope} {L : Addr} {a : Addr} {ccd : Value} {cl : List (Str × Addr)} {outer : List Env} (h : un + 8 * D < cLine) : (ktrTop dp un gd cn cs L a ccd cl outer).units < cLine := by
  show un < cLine; omega
theorem fn_useA {w : World} {f : Addr} {vs : List Value} {news : Ledger} {D : Nat} {R : Ok → Prop} {mean : ExcName → Option Value} {mg mb : Str → Option Value} {dp un : Nat} {gd : Option (List Code)} {cn : Str} {cs : Scope} {a : Addr} {ccd : Value} {cl : List (Str × Addr)} {outer : List Env} {A₀ : Around} {base h₀ : Heap} {L : Addr} {m : Str → Option Value} {s : Shared} {Q : Value → Shared → Prop}
    (S : Fn w f vs news D R) (k : R (fun v news' => ∀ h' tk', Fr h₀ L h' m → News h₀ L h' news' → Q v { s with heap := h', toks := tk' })) (B : Below A₀ base outer h₀ := by assumption) (F : Fr h₀ L s.heap m := by assumption) (X : (Mine.fr.heap_1 w.params).In h₀ := by assumption) (N : News h₀ L s.heap news := by assumption) (T : Top Mine.view LO mean mg mb h₀ := by assumption) (hk : cs.kind = .function := by rfl)
    (hd : dp + D < recursionLimit := by first | exact dlt (by assumption) (by rfl) | omega) (hu : un + 8 * D < cLine := by first | exact ult (by assumption) (by rfl) | omega) :
    wpAny (model PRG w) (ktrTop dp un gd cn cs L a ccd cl outer) (call (.ref f) vs) Q NoE s := S mean mg mb dp un gd cn cs a ccd cl outer A₀ base h₀ L m s Q B F X N T hk hd hu k
section
variable {prog : Program} {w : World} {A : Around} {E : Value → Shared → Prop} {s : Shared} {Q : Value → Shared → Prop} {a b : Int} {t u : Tok}
theorem lt_tA (q : Q (.bool true) s) (h : a < b := by first | with_reducible assumption | omega) : wpAny (model prog w) A (compareOp .Lt (.int a t) (.int b u)) Q E s := lt_t h q
theorem lt_fA (q : Q (.bool false) s) (h : b ≤ a := by first | with_reducible assumption | omega) : wpAny (model prog w) A (compareOp .Lt (.int a t) (.int b u)) Q E s := lt_f h q
theorem le_tA (q : Q (.bool true) s) (h : a ≤ b := by first | with_reducible assumption | omega) : wpAny (model prog w) A (compareOp .LtE (.int a t) (.int b u)) Q E s := le_t h q
theorem le_fA (q : Q (.bool false) s) (h : b < a := by first | with_reducible assumption | omega) : wpAny (model prog w) A (compareOp .LtE (.int a t) (.int b u)) Q E s := le_f h q
theorem gt_tA (q : Q (.bool true) s) (h : b < a := by first | with_reducible assumption | omega) : wpAny (model prog w) A (compareOp .Gt (.int a t) (.int b u)) Q E s := gt_t h q
theorem gt_fA (q : Q (.bool false) s) (h : a ≤ b := by first | with_reducible assumption | omega) : wpAny (model prog w) A (compareOp .Gt (.int a t) (.int b u)) Q E s := gt_f h q
theorem ge_tA (q : Q (.bool true) s) (h : b ≤ a := by first | with_reducible assumption | omega) : wpAny (model prog w) A (compareOp .GtE (.int a t) (.int b u)) Q E s := ge_t h q
theorem ge_fA (q : Q (.bool false) s) (h : a < b := by first | with_reducible assumption | omega) : wpAny (model prog w) A (compareOp .GtE (.int a t) (.int b u)) Q E s := ge_f h q
theorem eq_tA (q : Q (.bool true) s) (h : a = b := by first | with_reducible assumption | omega) : wpAny (model prog w) A (compareOp .Eq (.int a t) (.int b u)) Q E s := eq_t h q
theorem eq_fA (q : Q (.bool false) s) (h : a ≠ b := by first | with_reducible assumption | omega) : wpAny (model prog w) A (compareOp .Eq (.int a t) (.int b u)) Q E s := eq_f h q
end
section
open Builtin.Str
/-! Texts by the lists of their signs. -/
noncomputable abbrev S (l : List Nat) : Str := ⟨l.toArray⟩
theorem S_append (l k : List Nat) : (S l ++ S k : Str) = S (l ++ k) := Str.ext' (by show l.toArray ++ k.toArray = (l ++ k).toArray; simp)
theorem S_len (l : List Nat) : (S l).length = l.length := by show l.toArray.size = _; simp
theorem ofS (s : String) : Str.ofString s = S (s.toList.map Char.toNat) := Str.ofString_eq_toList s
theorem S_of (x : Str) : x = S x.cps.toList := Str.ext' (by simp)
theorem slice_nn (x : Str) {a b : Nat} (hab : a ≤ b) (hb : b ≤ x.length) : Txt.slice x (some (a : Int)) (some (b : Int)) = S ((x.cps.toList.drop a).take (b - a)) := by
  unfold Txt.slice
  rw [StrLaws.sliced_plain x hab hb]
  split
  · rename_i h
    rw [StrLaws.strSliceIndices_plain hab hb] at h
    have h' : b - a = x.length := by simpa using h
    have ha : a = 0 := by omega
    have hb' : b = x.length := by omega
    subst ha; subst hb'
    rw [List.drop_zero, Nat.sub_zero, List.take_of_length_le (by simp [Str.length])]
  · rfl
theorem idx_over {a b len : Nat} (hb : len ≤ b) : strSliceIndices (some (a : Int)) (some (b : Int)) 1 len = strSliceIndices (some (a : Int)) (some (len : Int)) 1 len := by
  have h1 : ¬ ((b : Int) < 0) := by omega
  have h2 : ¬ ((len : Int) < 0) := by omega
  have e : min (b : Int) (len : Int) = min (len : Int) (len : Int) := by omega
  simp only [strSliceIndices, sliceRange, h1, h2, if_false, e, show ((1 : Int) > 0) = True from by simp, if_true]
theorem idx_none {a len : Nat} : strSliceIndices (some (a : Int)) none 1 len = strSliceIndices (some (a : Int)) (some (len : Int)) 1 len := by
  have h2 : ¬ ((len : Int) < 0) := by omega
  have e : max (0 : Int) (min (len : Int) (len : Int)) = len := by omega
  simp only [strSliceIndices, sliceRange, h2, if_false, e, show ((1 : Int) > 0) = True from by simp, if_true]
theorem idx_none0 {b len : Nat} : strSliceIndices none (some (b : Int)) 1 len = strSliceIndices (some ((0 : Nat) : Int)) (some (b : Int)) 1 len := by
  have h2 : ¬ (((0 : Nat) : Int) < 0) := by omega
  have e : max (0 : Int) (min ((0 : Nat) : Int) (len : Int)) = 0 := by omega
  simp only [strSliceIndices, sliceRange, h2, if_false, e, show ((1 : Int) > 0) = True from by simp, if_true]
theorem slice_over (x : Str) {a b : Nat} (ha : a ≤ x.length) (hb : x.length ≤ b) : Txt.slice x (some (a : Int)) (some (b : Int)) = S (x.cps.toList.drop a) := by
  have h := slice_nn x ha (Nat.le_refl _)
  unfold Txt.slice at h ⊢
  rw [idx_over hb, h, List.take_of_length_le (by simp [Str.length])]
theorem slice_from (x : Str) {a : Nat} (ha : a ≤ x.length) : Txt.slice x (some (a : Int)) none = S (x.cps.toList.drop a) := by
  have h := slice_nn x ha (Nat.le_refl _)
  unfold Txt.slice at h ⊢
  rw [idx_none, h, List.take_of_length_le (by simp [Str.length])]
theorem slice_to (x : Str) {b : Nat} (hb : b ≤ x.length) : Txt.slice x none (some (b : Int)) = S (x.cps.toList.take b) := by
  have h := slice_nn x (Nat.zero_le b) hb
  unfold Txt.slice at h ⊢
  rw [idx_none0, h]; rfl
theorem slice_to_over (x : Str) {b : Nat} (hb : x.length ≤ b) : Txt.slice x none (some (b : Int)) = x := by
  have h := slice_over x (Nat.zero_le _) hb
  unfold Txt.slice at h ⊢
  rw [idx_none0, h, List.drop_zero]
/-- The signs l stand in x from place a on. -/
noncomputable def AtL (x : Str) (a : Nat) (l : List Nat) : Prop := ∃ p q, x.cps.toList = p ++ (l ++ q) ∧ p.length = a
section
variable {x : Str} {a : Nat} {l k : List Nat} {c : Nat}
theorem AtL.left (h : AtL x a (l ++ k)) : AtL x a l := by
  obtain ⟨p, q, e, hp⟩ := h
  exact ⟨p, k ++ q, by rw [e, List.append_assoc], hp⟩
theorem AtL.right (h : AtL x a (l ++ k)) : AtL x (a + l.length) k := by
  obtain ⟨p, q, e, hp⟩ := h
  exact ⟨p ++ l, q, by simp [e], by simp [hp]⟩
theorem AtL.tail (h : AtL x a (c :: l)) : AtL x (a + 1) l := AtL.right (l := [c]) h
theorem AtL.head (h : AtL x a (c :: l)) : AtL x a [c] := AtL.left (k := l) h
theorem xlen : x.length = x.cps.toList.length := by simp [Str.length]
theorem AtL.le (h : AtL x a l) : a + l.length ≤ x.length := by
  obtain ⟨p, q, e, hp⟩ := h
  rw [xlen, e]; simp; omega
theorem AtL.drop (h : AtL x a l) : (x.cps.toList.drop a).take l.length = l := by
  obtain ⟨p, q, e, hp⟩ := h
  rw [e, ← hp, List.drop_left, List.take_left]
theorem AtL.slice (h : AtL x a l) {b : Nat} (hb : b = a + l.length) : Txt.slice x (some (a : Int)) (some (b : Int)) = S l := by
  subst hb
  rw [slice_nn x (Nat.le_add_right _ _) h.le, Nat.add_sub_cancel_left, h.drop]
theorem AtL.get (h : AtL x a (c :: l)) : x.cps.toList[a]? = some c := by
  obtain ⟨p, q, e, hp⟩ := h
  rw [e, ← hp]; simp
theorem item_of {i : Nat} (h : x.cps.toList[i]? = some c) : Txt.item x (i : Int) = S [c] := by
  have hi : i < x.length := by
    rw [xlen]; exact (List.getElem?_eq_some_iff.mp h).1
  have e : seqIndex? (i : Int) x.length = some i := by
    unfold seqIndex?
    simp only [show ¬ ((i : Int) < 0) from by omega, if_false]
    rw [if_pos (by simp; omega)]; simp
  unfold Txt.item Txt.charAt
  rw [e]
  show Str.mk #[(x.cps[i]?).getD 0] = _
  rw [show x.cps[i]? = some c from by simpa using h]; rfl
theorem item_lastL {x : Str} {c : Nat} {n : Nat} (hn : x.length = n + 1) (h : x.cps.toList[n]? = some c) : Txt.item x (-1) = S [c] := by
  have e : seqIndex? (-1) x.length = some n := by
    unfold seqIndex?
    simp only [show ((-1 : Int) < 0) from by omega, if_true]
    rw [if_pos (by simp; omega)]; simp; omega
  unfold Txt.item Txt.charAt
  rw [e]
  show Str.mk #[(x.cps[n]?).getD 0] = _
  rw [show x.cps[n]? = some c from by simpa using h]; rfl
theorem AtL.item (h : AtL x a (c :: l)) : Txt.item x (a : Int) = S [c] := item_of h.get
theorem AtL.lt (h : AtL x a (c :: l)) : (a : Int) < x.length := by
  have := h.le
  simp at this; omega
/-- At the end of x. -/
theorem AtL.over (h : x.cps.toList.drop a = l) (ha : a ≤ x.length) {b : Nat} (hb : x.length ≤ b) : Txt.slice x (some (a : Int)) (some (b : Int)) = S l := by
  rw [slice_over x ha hb, h]
end
theorem AtL.refl (l : List Nat) : AtL (S l) 0 l := ⟨[], [], by simp, rfl⟩
/-! No sign of x stands in y. -/
theorem occ_nil {x y : Str} {lo hi limit : Nat} (h : ∀ i, i + y.length ≤ hi → Builtin.Str.subAt x y i = false) : Builtin.Str.occurrences x y lo hi limit = [] := by
  rw [StrLaws.occ_eq]
  have key : ∀ (l : List Nat) (st : Array Nat × Nat), (forIn l st (StrLaws.occBody x y hi limit)).run.fst = st.fst := by
    intro l
    induction l with
    | nil => intro st; rfl
    | cons a l ih =>
      intro st
      rw [List.forIn_cons]
      unfold StrLaws.occBody
      split
      · rename_i hc
        rw [h a hc.1.2] at hc
        exact absurd hc.2 Bool.false_ne_true
      · exact ih _
  rw [key]
theorem subAt_not {x y : Str} {c : Nat} {i : Nat} (hc : c ∈ y.cps.toList) (hx : c ∉ x.cps.toList) : Builtin.Str.subAt x y i = false := by
  rw [StrLaws.subAt_eq]
  cases hb : ((x.cps.toList.drop i).take y.length == y.cps.toList) with
  | false => rfl
  | true =>
    exfalso
    have e := eq_of_beq hb
    rw [← e] at hc
    exact hx (List.mem_of_mem_drop (List.mem_of_mem_take hc))
theorem replace_not {x y z : Str} {c : Nat} (hc : c ∈ y.cps.toList) (hx : c ∉ x.cps.toList) : Txt.replace x y z = x := by
  unfold Txt.replace
  rw [occ_nil (fun i _ => subAt_not hc hx)]
  rfl
theorem in_not {x y : Str} {c : Nat} (hc : c ∈ y.cps.toList) (hx : c ∉ x.cps.toList) : (!(Builtin.Str.occurrences x y 0 x.length 1).isEmpty) = false := by
  rw [occ_nil (fun i _ => subAt_not hc hx)]
  rfl
/-! Figures of the base 16. -/
noncomputable def hexc (d : Nat) : Nat := if d < 10 then 48 + d else 87 + d
noncomputable def hxs (n : Nat) : Nat → List Nat
  | 0 => []
  | k + 1 => hexc (n / 16 ^ k % 16) :: hxs n k
theorem hxs_len (n : Nat) : ∀ k, (hxs n k).length = k
  | 0 => rfl
  | k + 1 => by rw [hxs, List.length_cons, hxs_len n k]
theorem hxs_snoc (n : Nat) : ∀ k, hxs n (k + 1) = hxs (n / 16) k ++ [hexc (n % 16)]
  | 0 => by simp [hxs]
  | k + 1 => by
    rw [hxs, hxs_snoc n k, hxs, Nat.div_div_eq_div_mul, Nat.pow_succ, Nat.mul_comm 16]; rfl
theorem hxs_mem {n k c : Nat} (h : c ∈ hxs n k) : ∃ d, d < 16 ∧ c = hexc d := by
  induction k with
  | zero => cases h
  | succ k ih =>
    rcases List.mem_cons.mp h with rfl | h
    · exact ⟨_, Nat.mod_lt _ (by decide), rfl⟩
    · exact ih h
theorem digitChar_hex : ∀ d : Fin 16, (Nat.digitChar d.val).toNat = hexc d.val := by decide
theorem toDigits_hxs (n : Nat) : (Nat.toDigits 16 n).map Char.toNat = hxs n (Nat.toDigits 16 n).length := by
  induction n using Nat.strongRecOn with
  | _ n ih =>
    by_cases h : n < 16
    · rw [Nat.toDigits_of_lt_base h]
      show [(Nat.digitChar n).toNat] = [hexc (n / 16 ^ 0 % 16)]
      rw [digitChar_hex ⟨n, h⟩, Nat.pow_zero, Nat.div_one, Nat.mod_eq_of_lt h]
    · rw [Nat.toDigits_of_base_le (by decide) (by omega), List.map_append, ih (n / 16) (by omega), List.length_append, List.length_singleton, hxs_snoc]
      rw [List.map_singleton, digitChar_hex ⟨n % 16, Nat.mod_lt _ (by decide)⟩]
theorem hxs_pad {n L : Nat} (h : n < 16 ^ L) : ∀ j, hxs n (L + j) = List.replicate j 48 ++ hxs n L
  | 0 => rfl
  | j + 1 => by
    rw [← Nat.add_assoc, hxs, hxs_pad h j, List.replicate_succ, List.cons_append]
    rw [Nat.div_eq_of_lt (Nat.lt_of_lt_of_le h (Nat.pow_le_pow_right (by decide) (Nat.le_add_right _ _)))]
    rfl
theorem toDigits_lt (n : Nat) : n < 16 ^ (Nat.toDigits 16 n).length :=
  (Nat.length_toDigits_le_iff (by decide) Nat.length_toDigits_pos).mp (Nat.le_refl _)
theorem hex_text {n : Int} (h : 0 ≤ n) : baseText "0x" 16 n = S ([48, 120] ++ hxs n.toNat (Nat.toDigits 16 n.toNat).length) := by
  have e : n.natAbs = n.toNat := by omega
  rw [baseText_nonneg h, ofS (String.ofList (Nat.toDigits 16 n.natAbs)), String.toList_ofList, e, toDigits_hxs]
  rw [show Str.ofString "" ++ Str.ofString "0x" = S [48, 120] by decide, S_append]
theorem hex_slice {n : Int} (h : 0 ≤ n) : Txt.slice (baseText "0x" 16 n) (some 2) none = S (hxs n.toNat (Nat.toDigits 16 n.toNat).length) := by
  rw [hex_text h]
  exact slice_from (a := 2) (S _) (by rw [S_len]; simp)
theorem rj_hex {n k : Nat} (h1 : 1 ≤ k) (h : n < 16 ^ k) : Txt.rjustF (S (hxs n (Nat.toDigits 16 n).length)) (k : Int) 48 = S (hxs n k) := by
  have hl : (Nat.toDigits 16 n).length ≤ k := (Nat.length_toDigits_le_iff (by decide) h1).mpr h
  obtain ⟨j, rfl⟩ : ∃ j, k = (Nat.toDigits 16 n).length + j := ⟨k - (Nat.toDigits 16 n).length, by omega⟩
  rw [hxs_pad (toDigits_lt n)]
  unfold Txt.rjustF
  rw [S_len, hxs_len]
  split
  · have : j = 0 := by omega
    subst this; rfl
  · have e : ((((Nat.toDigits 16 n).length + j : Nat) : Int).toNat - (Nat.toDigits 16 n).length) = j := by omega
    rw [e]
    refine Str.ext' ?_
    simp [Builtin.Str.padded]
end
theorem upd3 {m : Map} {x1 x2 x3 : Str} {v1 v2 v3 : Option Value} (h1 : m x1 = v1) (h2 : m x2 = v2) (h3 : m x3 = v3) : m = fun y => if y = x1 then v1 else if y = x2 then v2 else if y = x3 then v3 else m y := by
  funext y
  by_cases e1 : y = x1
  · subst e1; rw [if_pos rfl, h1]
  · by_cases e2 : y = x2
    · subst e2; rw [if_neg e1, if_pos rfl, h2]
    · by_cases e3 : y = x3
      · subst e3; rw [if_neg e1, if_neg e2, if_pos rfl, h3]
      · rw [if_neg e1, if_neg e2, if_neg e3]
theorem sub_cons {l m : Ledger} {p : Addr × Obj} (h : p ∈ m) (t : ∀ z ∈ l, z ∈ m) : ∀ z ∈ p :: l, z ∈ m := List.forall_mem_cons.mpr ⟨h, t⟩
theorem sub_nil {m : Ledger} : ∀ z ∈ ([] : Ledger), z ∈ m := fun _ h => nomatch h
theorem sub_app {l k m : Ledger} (h1 : ∀ z ∈ l, z ∈ m) (h2 : ∀ z ∈ k, z ∈ m) : ∀ z ∈ l ++ k, z ∈ m := fun z h => (List.mem_append.mp h).elim (h1 z) (h2 z)
theorem sub_rfl {l : Ledger} : ∀ z ∈ l, z ∈ l := fun _ h => h
theorem sub_tl {l m : Ledger} {p : Addr × Obj} (h : ∀ z ∈ l, z ∈ m) : ∀ z ∈ l, z ∈ p :: m := fun z hz => .tail _ (h z hz)
theorem sub_inl {l m k : Ledger} (h : ∀ z ∈ l, z ∈ m) : ∀ z ∈ l, z ∈ m ++ k := fun z hz => List.mem_append_left _ (h z hz)
theorem sub_inr {l m k : Ledger} (h : ∀ z ∈ l, z ∈ m) : ∀ z ∈ l, z ∈ k ++ m := fun z hz => List.mem_append_right _ (h z hz)
noncomputable def CutS (g : Heap) (L : Addr) (s : Shared) (K : Map → Ledger → Prop) (s' : Shared) : Prop := ∃ (h : Heap) (tk : Nat) (M' : Map) (nw : Ledger), s' = { s with heap := h, toks := tk } ∧ Fr g L h M' ∧ News g L h nw ∧ K M' nw
theorem execs_cutS {M : Model} {A : Around} {E : Value → Shared → Prop} {g : Heap} {L : Addr} {m : Map} {s : Shared} {env : Env} {st : Stmt} {rest : List Stmt} {Q : Flow → Shared → Prop} (_ : Fr g L s.heap m) (K : Map → Ledger → Prop)
    (h1 : wpAny M A (exec st env) (CutI (CutS g L s K)) E s) (h2 : ∀ h tk M' nw, Fr g L h M' → News g L h nw → K M' nw → wpAny M A (execs rest env) Q E { s with heap := h, toks := tk }) : wpAny M A (execs (st :: rest) env) Q E s :=
  execs_cut _ h1 fun _ ⟨h, tk, M', nw, e, F, N, k⟩ => e ▸ h2 h tk M' nw F N k
local macro_rules | `(tactic| walk_at $s:str) => `(tactic| k_extra $s)
theorem base_rows : True := by
  (k_with "compareOp Lt int int" => (first | refine lt_tA ?_ | refine lt_fA ?_))
  (k_with "compareOp LtE int int" => (first | refine le_tA ?_ | refine le_fA ?_))
  (k_with "compareOp Gt int int" => (first | refine gt_tA ?_ | refine gt_fA ?_))
  (k_with "compareOp GtE int int" => (first | refine ge_tA ?_ | refine ge_fA ?_))
  (k_with "compareOp Eq int int" => (first | refine eq_tA ?_ | refine eq_fA ?_))
  (k_with "compareOp In str str" => (refine ins _ (by with_reducible assumption) ?_))
  (k_with "compareOp NotIn str str" => (refine nins _ (by with_reducible assumption) ?_))
  (k_with "compareOp Eq str str" => (refine eqs _ (by with_reducible assumption) ?_))
  (k_with "compareOp NotEq str str" => (refine nes _ (by with_reducible assumption) ?_))
  (k_with "subscriptTail Name Name str int" => (refine itm (by first | with_reducible assumption | omega) (by with_reducible assumption) ?_))
  (k_with "subscriptTail Name Constant str int" => (refine itm (by first | with_reducible assumption | omega) (by with_reducible assumption) ?_))
  (k_with "call builtin:dict.get" => (first | refine get_int (by with_reducible assumption) (by with_reducible assumption) (by with_reducible assumption) ?_ | refine get_none (by with_reducible assumption) (by with_reducible assumption) (by with_reducible assumption) ?_))
  (k_with "call builtin:str.lower" => ((refine SCL.lower (by first | with_reducible assumption | omega) ?_; intro _)))
  (k_with "ite" => (first | with_reducible refine ite_t ?_ | with_reducible refine ite_f ?_ | (refine ite_t' (by decide) ?_) | (refine ite_f' (by decide) ?_)))
  (k_with "callWith" => (first | with_reducible refine callWith_method0 ?_ | with_reducible refine cw_b ?_ | with_reducible refine cw_m ?_))
  (k_with "subscriptTail Name UnaryOp str int" => (refine itn (by first | with_reducible assumption | omega) (by with_reducible assumption) ?_))
  (k_with "execs nil" => (with_reducible refine wpAny_execs_nil ?_))
  (k_with "subscriptTail Name Slice str ref" => (((with_reducible show wpAny _ _ (subscriptTail _ (Expr.Slice (some _) (some _) none _) _ _) _ _ _); refine slc_ss (s := ⟨_, _, _, _, _⟩) (by assumption) (by assumption) (by with_reducible assumption) rfl rfl (by first | with_reducible assumption | omega) ?_; intro _ _ _ _ _)))
  (k_with "eval Call" => (((with_reducible show wpAny _ _ (eval (Expr.Call _ _ [] _) _) _ _ _); k_dflt (refine Call_ ?_))))
  (k_with "callWith" => (((with_reducible show wpAny _ _ (callWith _ (Value.type _) _ _ _) _ _ _); k_dflt (refine PyProof.Rows.callWith_type1 ?_))))
  (k_with "callWith" => (((with_reducible show wpAny _ _ (callWith _ (Value.builtin _) _ _ _) _ _ _); first | with_reducible refine callWith_method0 ?_ | k_dflt (refine cw_b ?_) | k_dflt (refine cw_m ?_))))
  (k_with "compareOp NotIn int ref" => (k_dflt (first | refine notin2_t (by assumption) (by exact .head _) (by first | with_reducible assumption | omega) (by first | with_reducible assumption | omega) ?_ | refine notin2_f (by assumption) (by exact .head _) (by first | with_reducible assumption | omega) ?_)))
  (k_with "call builtin:hex" => ((refine hex_f (by with_reducible assumption) (by first | with_reducible assumption | omega) ?_)))
  (k_with "subscriptTail Call" => (((with_reducible show wpAny _ _ (subscriptTail _ (Expr.Slice (some _) none none _) (Value.str _ _) (Value.ref _)) _ _ _); refine sln (s := ⟨_, _, _, _, _⟩) (by assumption) (by assumption) (by with_reducible assumption) (by first | with_reducible assumption | omega) ?_; intro _ _ _ _ _)))
  (k_with "compareOp In int ref" => (k_dflt (first | refine in2l (by assumption) (by exact .head _) (any2_f (by first | with_reducible assumption | omega) (by first | with_reducible assumption | omega)) ?_ | refine in2l (by assumption) (by exact .head _) (any2_t (by first | with_reducible assumption | omega)) ?_)))
  (k_with "compareOp NotIn int ref" => (k_dflt (first | refine notin2l (by assumption) (by exact .head _) (congrArg not (any2_f (by first | with_reducible assumption | omega) (by first | with_reducible assumption | omega))) ?_ | refine notin2l (by assumption) (by exact .head _) (congrArg not (any2_t (by first | with_reducible assumption | omega))) ?_)))
  (k_with "mem" => (first | with_reducible exact List.mem_cons_self | (with_reducible refine List.mem_cons_of_mem _ ?_; walk_at "mem") | (with_reducible refine List.mem_append_right _ ?_; walk_at "mem") | (with_reducible refine List.mem_append_left _ ?_; walk_at "mem") | with_reducible assumption))
  (k_with "sub" => (first | with_reducible exact sub_nil | with_reducible exact sub_rfl | (with_reducible refine sub_cons ?_ ?_; (· walk_at "mem"); walk_at "sub") | (with_reducible refine sub_app ?_ ?_; (· walk_at "sub"); walk_at "sub") | (with_reducible refine sub_tl ?_; walk_at "sub") | (with_reducible refine sub_inl ?_; walk_at "sub") | (with_reducible refine sub_inr ?_; walk_at "sub")))
  trivial
local macro_rules | `(tactic| walk_at "eval Name") => `(tactic| (fail_if_success (with_reducible show wpAny _ _ (eval (Expr.Name _ _) (compEnvC _ _ _ _)) _ _ _)); first
  | (name_kind "local"; k_dflt (refine ld (by with_reducible assumption) (by rfl) ?_))
  | (name_kind "globalImplicit"; name_is_builtin; (with_reducible rename Fr _ _ _ _ => kF); k_dflt (refine' nameX_B kF ?k1 ?k2 ?k3 ?k4 ?k5 ?_; (case k1 => with_reducible assumption); (case k2 => exact topRead_of (by with_reducible assumption)); (case k3 => k_is); (case k4 => first | with_reducible (first | exact bv_len | exact bv_hex | exact bv_chr | exact bv_ord | exact bv_min | exact bv_max | exact bv_str | exact bv_int | exact bv_bytes | exact bv_bytearray | exact bv_range | exact bv_zip | exact bv_list) | rfl); (case k5 => decide)))
  | (name_kind "globalImplicit"; (with_reducible rename Fr _ _ _ _ => kF); k_dflt (refine' nameX_K kF ?k1 ?k2 ?k3 ?_; (case k1 => with_reducible assumption); (case k2 => exact topRead_of (by with_reducible assumption)); (case k3 => k_is))))
noncomputable def figureWorth (x : Str) : Int := if 0 ≤ Txt.find (Str.ofString "0123456789abcdef") (Txt.lower x) then Txt.find (Str.ofString "0123456789abcdef") (Txt.lower x) else 99

theorem figure_worth_ok (w : World) (news : Ledger) (x : Str) (t : Tok) (hx : x.length ≤ 1000) : Fn w 137 [.str x t] news 1 (fun ok => ∀ t, ok (.int (figureWorth x) t) news) := by
  refine' fn_of_body (binds := [(Str.ofString "sign", .str x t)]) ?ho ?hcd ?hb ?hl ?hc ?hR ?body ?c1 ?c2 ?c3
  (case ho => k_is)
  (case hcd => k_is)
  (case hb => rfl)
  (case hl => rfl)
  (case hc => decide)
  (case hR => exact (fun _ _ h k t => h _ _ (k t)))
  (case c1 => rfl)
  (case c2 => rfl)
  (case c3 => rfl)
  intro mean mg mb dp un gd outer A₀ base g L s Q B F X N T hd hu hret
  by_cases hc : 0 ≤ Txt.find (Str.ofString "0123456789abcdef") (Txt.lower x)
  · have e : figureWorth x = _ := if_pos hc
    repeat' ((fail_if_success (with_reducible show wpAny _ _ (exec (Stmt.For _ _ _ _ _) _) _ _ _)); (fail_if_success (with_reducible show wpAny _ _ (pyIter _) _ _ _)); (fail_if_success (with_reducible show wpAny _ _ (exec (Stmt.While _ _ _ _) _) _ _ _)); first | walk1 | (dsimp only; walk1))
    rw [← e]
    exact hret _ _ _ _ (by assumption) (by assumption)
  · have e : figureWorth x = _ := if_neg hc
    repeat' ((fail_if_success (with_reducible show wpAny _ _ (exec (Stmt.For _ _ _ _ _) _) _ _ _)); (fail_if_success (with_reducible show wpAny _ _ (pyIter _) _ _ _)); (fail_if_success (with_reducible show wpAny _ _ (exec (Stmt.While _ _ _ _) _) _ _ _)); first | walk1 | (dsimp only; walk1))
    rw [← e]
    exact hret _ _ _ _ (by assumption) (by assumption)

theorem is_right_rune_ok (w : World) (news : Ledger) (r : Int) (t : Tok) (h0 : 0 ≤ r) (h1 : r ≤ 1114111) (h2 : r < 55296 ∨ 57343 < r) : Fn w 98 [.int r t] news 1 (fun ok => ok (.bool true) news) := by
  refine' fn_of_body (binds := [(Str.ofString "rune", .int r t)]) ?ho ?hcd ?hb ?hl ?hc ?hR ?body ?c1 ?c2 ?c3
  (case ho => k_is)
  (case hcd => k_is)
  (case hb => rfl)
  (case hl => rfl)
  (case hc => decide)
  (case hR => exact (fun _ _ h k => h _ _ k))
  (case c1 => rfl)
  (case c2 => rfl)
  (case c3 => rfl)
  intro mean mg mb dp un gd outer A₀ base g L s Q B F X N T hd hu hret
  by_cases h3 : 55296 ≤ r
  · repeat' ((fail_if_success (with_reducible show wpAny _ _ (exec (Stmt.For _ _ _ _ _) _) _ _ _)); (fail_if_success (with_reducible show wpAny _ _ (pyIter _) _ _ _)); (fail_if_success (with_reducible show wpAny _ _ (exec (Stmt.While _ _ _ _) _) _ _ _)); first | walk1 | (dsimp only; walk1))
    exact hret _ _ _ (by assumption) (by assumption)
  · repeat' ((fail_if_success (with_reducible show wpAny _ _ (exec (Stmt.For _ _ _ _ _) _) _ _ _)); (fail_if_success (with_reducible show wpAny _ _ (pyIter _) _ _ _)); (fail_if_success (with_reducible show wpAny _ _ (exec (Stmt.While _ _ _ _) _) _ _ _)); first | walk1 | (dsimp only; walk1))
    exact hret _ _ _ (by assumption) (by assumption)
theorem run_behind_ok (w : World) (news : Ledger) (x y : Str) (a e : Int) (t u v : Tok) 
    (hin : ∀ i, a ≤ i → i < e → ∃ z, Itm x i z ∧ Ins z y true) (hend : e = x.length ∨ ∃ z, Itm x e z ∧ Ins z y false) (hx : x.length ≤ 1000) (_h0 : 0 ≤ a) (hae : a ≤ e) (he : e ≤ x.length) :
    Fn w 116 [.str x t, .int a u, .str y v] news 1 (fun ok => ∀ t, ok (.int e t) news) := by
  refine' fn_of_body (binds := [(Str.ofString "text", .str x t), (Str.ofString "at", .int a u), (Str.ofString "signs", .str y v)]) ?ho ?hcd ?hb ?hl ?hc ?hR ?body ?c1 ?c2 ?c3
  (case ho => k_is)
  (case hcd => k_is)
  (case hb => rfl)
  (case hl => rfl)
  (case hc => decide)
  (case hR => exact (fun _ _ h k t => h _ _ (k t)))
  (case c1 => rfl)
  (case c2 => rfl)
  (case c3 => rfl)
  intro mean mg mb dp un gd outer A₀ base g L s Q B F X N T hd hu hret
  have hx' : x.length ≤ 100000 := by omega
  refine wpAny_execs_cons ?_
  refine While_inv2 (fun n m' nx => nx = news ∧ ∃ (i : Int) (ti : Tok), a ≤ i ∧ i ≤ e ∧ n = (e - i).toNat ∧ m' = fun z => if z = Str.ofString "at" then some (.int i ti) else [(Str.ofString "text", Value.str x t), (Str.ofString "at", .int a u), (Str.ofString "signs", .str y v)].reverse.lookup z) F N ⟨rfl, a, u, by omega, hae, rfl, (upd_same (by rfl)).symm⟩ ?_ PassesOwn.never
  rintro n m₁ news₁ h₁ tk₁ F₁ N₁ ⟨rfl, i, ti, hi1, hi2, rfl, rfl⟩
  by_cases hlt : i < e
  · obtain ⟨z, hz1, hz2⟩ := hin i hi1 hlt
    have hil : i < x.length := hz1.2.1
    repeat' ((fail_if_success (with_reducible show wpAny _ _ (exec (Stmt.For _ _ _ _ _) _) _ _ _)); (fail_if_success (with_reducible show wpAny _ _ (pyIter _) _ _ _)); (fail_if_success (with_reducible show wpAny _ _ (exec (Stmt.While _ _ _ _) _) _ _ _)); first | walk1 | (dsimp only; walk1))
    exact ⟨_, _, _, _, (e - (i + 1)).toNat, rfl, by assumption, by assumption, by omega, rfl, i + 1, _, by omega, by omega, rfl, upd_upd⟩
  · have hie : i = e := by omega
    subst hie
    rcases hend with hend | ⟨z, hz1, hz2⟩
    · repeat' ((fail_if_success (with_reducible show wpAny _ _ (exec (Stmt.For _ _ _ _ _) _) _ _ _)); (fail_if_success (with_reducible show wpAny _ _ (pyIter _) _ _ _)); (fail_if_success (with_reducible show wpAny _ _ (exec (Stmt.While _ _ _ _) _) _ _ _)); first | walk1 | (dsimp only; walk1))
      exact hret _ _ _ _ (by assumption) (by assumption)
    · have hil : i < x.length := hz1.2.1
      repeat' ((fail_if_success (with_reducible show wpAny _ _ (exec (Stmt.For _ _ _ _ _) _) _ _ _)); (fail_if_success (with_reducible show wpAny _ _ (pyIter _) _ _ _)); (fail_if_success (with_reducible show wpAny _ _ (exec (Stmt.While _ _ _ _) _) _ _ _)); first | walk1 | (dsimp only; walk1))
      exact hret _ _ _ _ (by assumption) (by assumption)
noncomputable abbrev D107 : List (PySem.PyData × PySem.PyData) := [(.str ⟨#[48, 120]⟩, .int 16), (.str ⟨#[48, 111]⟩, .int 8), (.str ⟨#[48, 98]⟩, .int 2)]
noncomputable abbrev tupO (vs : List Value) : Obj := { cls := .type "tuple", data := .seq vs.toArray }

namespace Ep_number_parts_hex
noncomputable def P (w : World) (news : Ledger) (x : Str) (t : Tok) : Prop := ∀ (y : Str) (hx : x.length ≤ 1000) (hk : LookI (Txt.lower (Txt.slice x none (some 2))) D107 (some 16)) (h1 : Eqs (Txt.slice x (some 2) (some 3)) (Str.ofString "_") false) (h2 : Txt.slice x (some 2) none = y), Fn w 144 [.str x t] news 1 (fun ok => ∀ a t1 t2, (∀ p ∈ news, p.1 < a) → ok (.ref a) ((a, tupO [.int 16 t1, .str y t2]) :: news))
theorem ne : Nonempty (World × Ledger × Str × Tok) := ⟨(wld, default, default, default)⟩
noncomputable def d : World × Ledger × Str × Tok := cex ne fun d => P d.1 d.2.1 d.2.2.1 d.2.2.2
noncomputable def w : World := d.1
noncomputable def news : Ledger := d.2.1
noncomputable def x : Str := d.2.2.1
noncomputable def t : Tok := d.2.2.2
theorem main (y : Str) (hx : x.length ≤ 1000) (hk : LookI (Txt.lower (Txt.slice x none (some 2))) D107 (some 16)) (h1 : Eqs (Txt.slice x (some 2) (some 3)) (Str.ofString "_") false) (h2 : Txt.slice x (some 2) none = y) : Fn w 144 [.str x t] news 1 (fun ok => ∀ a t1 t2, (∀ p ∈ news, p.1 < a) → ok (.ref a) ((a, tupO [.int 16 t1, .str y t2]) :: news)) := by
  subst h2
  refine' fn_of_body (binds := [(Str.ofString "word", .str x t)]) ?ho ?hcd ?hb ?hl ?hc ?hR ?body ?c1 ?c2 ?c3
  (case ho => k_is)
  (case hcd => k_is)
  (case hb => rfl)
  (case hl => rfl)
  (case hc => decide)
  (case hR => exact (fun _ _ h k a t1 t2 l => h _ _ (k a t1 t2 l)))
  (case c1 => rfl)
  (case c2 => rfl)
  (case c3 => rfl)
  refine bd_eps ?_
  intro B F X N T hd hu hret
  have TB := kt_tab_in (a := 107) (D := [(⟨#[48, 120]⟩, .int 16), (⟨#[48, 111]⟩, .int 8), (⟨#[48, 98]⟩, .int 2)]) PRG w X (by kernel_rfl) (by decide) (by kernel_rfl)
  dsimp only [List.map] at TB
  have hx' : x.length ≤ 100000 := by omega
  repeat' ((fail_if_success (with_reducible show wpAny _ _ (exec (Stmt.For _ _ _ _ _) _) _ _ _)); (fail_if_success (with_reducible show wpAny _ _ (pyIter _) _ _ _)); (fail_if_success (with_reducible show wpAny _ _ (exec (Stmt.While _ _ _ _) _) _ _ _)); first | walk1 | (dsimp only; walk1))
  exact hret _ _ _ (by assumption) _ _ _ (by assumption) (by assumption)

end Ep_number_parts_hex
theorem number_parts_hex (w : World) (news : Ledger) (x y : Str) (t : Tok) (hx : x.length ≤ 1000) (hk : LookI (Txt.lower (Txt.slice x none (some 2))) D107 (some 16)) (h1 : Eqs (Txt.slice x (some 2) (some 3)) (Str.ofString "_") false) (h2 : Txt.slice x (some 2) none = y) : Fn w 144 [.str x t] news 1 (fun ok => ∀ a t1 t2, (∀ p ∈ news, p.1 < a) → ok (.ref a) ((a, tupO [.int 16 t1, .str y t2]) :: news)) :=
  (cex_all (ne := Ep_number_parts_hex.ne) (P := fun d : World × Ledger × Str × Tok => Ep_number_parts_hex.P d.1 d.2.1 d.2.2.1 d.2.2.2) (fun y hx hk h1 h2 => Ep_number_parts_hex.main y hx hk h1 h2) (w, news, x, t)) y hx hk h1 h2
namespace Ep_number_parts_dec
noncomputable def P (w : World) (news : Ledger) (x : Str) (t : Tok) : Prop := ∀ (hx : x.length ≤ 1000) (hk : LookI (Txt.lower (Txt.slice x none (some 2))) D107 none) (h1 : (x.length : Int) ≤ 1 ∨ (∃ z, Itm x 0 z ∧ Eqs z (Str.ofString "0") false)), Fn w 144 [.str x t] news 1 (fun ok => ∀ a t1 t2, (∀ p ∈ news, p.1 < a) → ok (.ref a) ((a, tupO [.int 10 t1, .str x t2]) :: news))
theorem ne : Nonempty (World × Ledger × Str × Tok) := ⟨(wld, default, default, default)⟩
noncomputable def d : World × Ledger × Str × Tok := cex ne fun d => P d.1 d.2.1 d.2.2.1 d.2.2.2
noncomputable def w : World := d.1
noncomputable def news : Ledger := d.2.1
noncomputable def x : Str := d.2.2.1
noncomputable def t : Tok := d.2.2.2
theorem main (hx : x.length ≤ 1000) (hk : LookI (Txt.lower (Txt.slice x none (some 2))) D107 none) (h1 : (x.length : Int) ≤ 1 ∨ (∃ z, Itm x 0 z ∧ Eqs z (Str.ofString "0") false)) : Fn w 144 [.str x t] news 1 (fun ok => ∀ a t1 t2, (∀ p ∈ news, p.1 < a) → ok (.ref a) ((a, tupO [.int 10 t1, .str x t2]) :: news)) := by
  refine' fn_of_body (binds := [(Str.ofString "word", .str x t)]) ?ho ?hcd ?hb ?hl ?hc ?hR ?body ?c1 ?c2 ?c3
  (case ho => k_is)
  (case hcd => k_is)
  (case hb => rfl)
  (case hl => rfl)
  (case hc => decide)
  (case hR => exact (fun _ _ h k a t1 t2 l => h _ _ (k a t1 t2 l)))
  (case c1 => rfl)
  (case c2 => rfl)
  (case c3 => rfl)
  refine bd_eps ?_
  intro B F X N T hd hu hret
  have TB := kt_tab_in (a := 107) (D := [(⟨#[48, 120]⟩, .int 16), (⟨#[48, 111]⟩, .int 8), (⟨#[48, 98]⟩, .int 2)]) PRG w X (by kernel_rfl) (by decide) (by kernel_rfl)
  dsimp only [List.map] at TB
  have hx' : x.length ≤ 100000 := by omega
  by_cases h3 : (x.length : Int) ≤ 1
  · repeat' ((fail_if_success (with_reducible show wpAny _ _ (exec (Stmt.For _ _ _ _ _) _) _ _ _)); (fail_if_success (with_reducible show wpAny _ _ (pyIter _) _ _ _)); (fail_if_success (with_reducible show wpAny _ _ (exec (Stmt.While _ _ _ _) _) _ _ _)); first | walk1 | (dsimp only; walk1))
    exact hret _ _ _ (by assumption) _ _ _ (by assumption) (by assumption)
  · obtain ⟨z, h1, h2⟩ := h1.resolve_left h3
    repeat' ((fail_if_success (with_reducible show wpAny _ _ (exec (Stmt.For _ _ _ _ _) _) _ _ _)); (fail_if_success (with_reducible show wpAny _ _ (pyIter _) _ _ _)); (fail_if_success (with_reducible show wpAny _ _ (exec (Stmt.While _ _ _ _) _) _ _ _)); first | walk1 | (dsimp only; walk1))
    exact hret _ _ _ (by assumption) _ _ _ (by assumption) (by assumption)
end Ep_number_parts_dec
theorem number_parts_dec (w : World) (news : Ledger) (x : Str) (t : Tok) (hx : x.length ≤ 1000) (hk : LookI (Txt.lower (Txt.slice x none (some 2))) D107 none) (h1 : (x.length : Int) ≤ 1 ∨ (∃ z, Itm x 0 z ∧ Eqs z (Str.ofString "0") false)) : Fn w 144 [.str x t] news 1 (fun ok => ∀ a t1 t2, (∀ p ∈ news, p.1 < a) → ok (.ref a) ((a, tupO [.int 10 t1, .str x t2]) :: news)) :=
  (cex_all (ne := Ep_number_parts_dec.ne) (P := fun d : World × Ledger × Str × Tok => Ep_number_parts_dec.P d.1 d.2.1 d.2.2.1 d.2.2.2) (fun hx hk h1 => Ep_number_parts_dec.main hx hk h1) (w, news, x, t)) hx hk h1
local macro_rules | `(tactic| walk_at "call ref") => `(tactic| ((with_reducible show wpAny _ _ (call (Value.ref 137) _) _ _ _); refine fn_useA (figure_worth_ok _ _ _ _ (by omega)) ?_; intro t' h' tk' F' N'))
local macro_rules | `(tactic| walk_at "call ref") => `(tactic| ((with_reducible show wpAny _ _ (call (Value.ref 116) _) _ _ _); refine fn_useA (run_behind_ok _ _ _ _ _ _ _ _ _ (by assumption) (by assumption) (by omega) (by omega) (by omega) (by omega)) ?_; intro t' h' tk' F' N'))
noncomputable abbrev NAMES : Str := Str.ofString "abcdefghijklmnopqrstuvwxyzABCDEFGHIJKLMNOPQRSTUVWXYZ_0123456789"

noncomputable def numFold (bs : Int) (l : List Nat) : Int := l.foldl (fun v c => v * bs + figureWorth ⟨#[c]⟩) 0
theorem numFold_snoc (bs : Int) (l : List Nat) (c : Nat) : numFold bs (l ++ [c]) = numFold bs l * bs + figureWorth ⟨#[c]⟩ := by simp [numFold]
theorem numFold_take (bs : Int) {x : Str} {i c : Nat} (h : x.cps[i]? = some c) : numFold bs (x.cps.toList.take (i + 1)) = numFold bs (x.cps.toList.take i) * bs + figureWorth ⟨#[c]⟩ := by
  rw [List.take_add_one, show x.cps.toList[i]? = some c from by simpa using h]
  exact numFold_snoc bs _ c
noncomputable def NP (w : World) (y figs : Str) (bs : Int) : Prop := ∀ news t, Fn w 144 [.str y t] news 1 (fun ok => ∀ a t1 t2, (∀ p ∈ news, p.1 < a) → ok (.ref a) ((a, tupO [.int bs t1, .str figs t2]) :: news))
theorem np_use {w : World} {y figs : Str} {bs : Int} (h : NP w y figs bs) (news : Ledger) (t : Tok) : Fn w 144 [.str y t] news 1 (fun ok => ∀ a t1 t2, (∀ p ∈ news, p.1 < a) → ok (.ref a) ((a, tupO [.int bs t1, .str figs t2]) :: news)) := h news t


namespace Ep_read_number_ok
noncomputable def P (w : World) (news : Ledger) (x : Str) (figs : Str) (z0 : Str) (z1 : Str) (b : Int) (e : Int) (bs : Int) (t : Tok) (u : Tok) : Prop := ∀ (y : Str) (hx : x.length ≤ 1000) (hb0 : 0 ≤ b) (hbe : b < e) (he : e ≤ x.length) (hin : ∀ i, b ≤ i → i < e → ∃ z, Itm x i z ∧ Ins z NAMES true) (hend : e = x.length ∨ ∃ z, Itm x e z ∧ Ins z NAMES false) (hy : Txt.slice x (some b) (some e) = y) (hp : NP w y figs bs) (f1 : Eqs figs (Str.ofString "") false) (f2 : Itm figs 0 z0) (f2' : Eqs z0 (Str.ofString "_") false) (f3' : Itn figs (-1) z1) (f3 : Eqs z1 (Str.ofString "_") false) (f4 : Ins (Str.ofString "__") figs false) (f5 : figs.length ≤ 100) (f6 : Txt.replace figs (Str.ofString "_") (Str.ofString "") = figs) (f7 : ∀ (i c : Nat), figs.cps[i]? = some c → figureWorth ⟨#[c]⟩ < bs) (hb1 : 0 ≤ bs) (hb2 : bs ≤ 16) (f8 : Eqs (Txt.slice x (some e) (some (e + 1))) (Str.ofString ".") false), Fn w 151 [.str x t, .int b u] news 3 (fun ok => ∀ a1 a2 t1 t2 t3 t4 t5, (∀ p ∈ news, p.1 < a1) → a1 < a2 → ok (.ref a2) ((a2, tupO [.ref a1, .int e t5]) :: (a1, tupO [.str (Str.ofString "int") t1, .str y t2, .int b t3, .int (numFold bs figs.cps.toList) t4]) :: news))
theorem ne : Nonempty (World × Ledger × Str × Str × Str × Str × Int × Int × Int × Tok × Tok) := ⟨(wld, default, default, default, default, default, default, default, default, default, default)⟩
noncomputable def d : World × Ledger × Str × Str × Str × Str × Int × Int × Int × Tok × Tok := cex ne fun d => P d.1 d.2.1 d.2.2.1 d.2.2.2.1 d.2.2.2.2.1 d.2.2.2.2.2.1 d.2.2.2.2.2.2.1 d.2.2.2.2.2.2.2.1 d.2.2.2.2.2.2.2.2.1 d.2.2.2.2.2.2.2.2.2.1 d.2.2.2.2.2.2.2.2.2.2
noncomputable def w : World := d.1
noncomputable def news : Ledger := d.2.1
noncomputable def x : Str := d.2.2.1
noncomputable def figs : Str := d.2.2.2.1
noncomputable def z0 : Str := d.2.2.2.2.1
noncomputable def z1 : Str := d.2.2.2.2.2.1
noncomputable def b : Int := d.2.2.2.2.2.2.1
noncomputable def e : Int := d.2.2.2.2.2.2.2.1
noncomputable def bs : Int := d.2.2.2.2.2.2.2.2.1
noncomputable def t : Tok := d.2.2.2.2.2.2.2.2.2.1
noncomputable def u : Tok := d.2.2.2.2.2.2.2.2.2.2
theorem main (y : Str) (hx : x.length ≤ 1000) (hb0 : 0 ≤ b) (hbe : b < e) (he : e ≤ x.length) (hin : ∀ i, b ≤ i → i < e → ∃ z, Itm x i z ∧ Ins z NAMES true) (hend : e = x.length ∨ ∃ z, Itm x e z ∧ Ins z NAMES false) (hy : Txt.slice x (some b) (some e) = y) (hp : NP w y figs bs) (f1 : Eqs figs (Str.ofString "") false) (f2 : Itm figs 0 z0) (f2' : Eqs z0 (Str.ofString "_") false) (f3' : Itn figs (-1) z1) (f3 : Eqs z1 (Str.ofString "_") false) (f4 : Ins (Str.ofString "__") figs false) (f5 : figs.length ≤ 100) (f6 : Txt.replace figs (Str.ofString "_") (Str.ofString "") = figs) (f7 : ∀ (i c : Nat), figs.cps[i]? = some c → figureWorth ⟨#[c]⟩ < bs) (hb1 : 0 ≤ bs) (hb2 : bs ≤ 16) (f8 : Eqs (Txt.slice x (some e) (some (e + 1))) (Str.ofString ".") false) : Fn w 151 [.str x t, .int b u] news 3 (fun ok => ∀ a1 a2 t1 t2 t3 t4 t5, (∀ p ∈ news, p.1 < a1) → a1 < a2 → ok (.ref a2) ((a2, tupO [.ref a1, .int e t5]) :: (a1, tupO [.str (Str.ofString "int") t1, .str y t2, .int b t3, .int (numFold bs figs.cps.toList) t4]) :: news)) := by
  subst hy
  refine' fn_of_body (binds := [(Str.ofString "text", .str x t), (Str.ofString "begin", .int b u)]) ?ho ?hcd ?hb ?hl ?hc ?hR ?body ?c1 ?c2 ?c3
  (case ho => k_is)
  (case hcd => k_is)
  (case hb => rfl)
  (case hl => rfl)
  (case hc => decide)
  (case hR => exact (fun _ _ h k a1 a2 t1 t2 t3 t4 t5 l1 l2 => h _ _ (k a1 a2 t1 t2 t3 t4 t5 l1 l2)))
  (case c1 => rfl)
  (case c2 => rfl)
  (case c3 => rfl)
  refine bd_eps ?_
  intro B F X N T hd hu hret
  have hx' : x.length ≤ 100000 := by omega
  repeat' ((fail_if_success (with_reducible show wpAny _ _ (exec (Stmt.For _ _ _ _ _) _) _ _ _)); (fail_if_success (with_reducible show wpAny _ _ (pyIter _) _ _ _)); (fail_if_success (with_reducible show wpAny _ _ (exec (Stmt.While _ _ _ _) _) _ _ _)); first | walk1 | (dsimp only; walk1))
  (refine fn_useA (np_use (by assumption) _ _) ?_; intro _ _ _ _ _ _ _ _)
  repeat' ((fail_if_success (with_reducible show wpAny _ _ (exec (Stmt.For _ _ _ _ _) _) _ _ _)); (fail_if_success (with_reducible show wpAny _ _ (pyIter _) _ _ _)); (fail_if_success (with_reducible show wpAny _ _ (exec (Stmt.While _ _ _ _) _) _ _ _)); first | walk1 | (dsimp only; walk1))
  refine For_invVF (by assumption) rfl rfl ?_ (hE := PassesOwn.never)
  repeat' ((fail_if_success (with_reducible show wpAny _ _ (exec (Stmt.For _ _ _ _ _) _) _ _ _)); (fail_if_success (with_reducible show wpAny _ _ (pyIter _) _ _ _)); (fail_if_success (with_reducible show wpAny _ _ (exec (Stmt.While _ _ _ _) _) _ _ _)); first | walk1 | (dsimp only; walk1))
  rw [f6]
  refine' it_str (σ := Tok × Option Value) (fun _ _ => True) (fun i c m₀ y => if y = Str.ofString "sign" then c.2 else if y = Str.ofString "value" then some (.int (numFold bs (figs.cps.toList.take i)) c.1) else m₀ y) (fun _ _ n => n) (_, none) rfl (by assumption) (by assumption) trivial ?hM rfl ?turn ?done
  case hM =>
    funext y
    by_cases h1 : y = Str.ofString "sign"
    · subst h1; rfl
    · by_cases h2 : y = Str.ofString "value"
      · subst h2; rfl
      · simp only [h1, h2, if_false]
  case turn =>
    rintro i c tc ⟨tv, u'⟩ h tk own hc hoff - F₁ N₁
    have hw := f7 i c hc
    change Fr _ _ h _ at F₁
    change News _ _ h _ at N₁
    dsimp only at F₁ N₁
    have hcl : (Str.mk #[c]).length ≤ 1000 := by show 1 ≤ 1000; omega
    repeat' ((fail_if_success (with_reducible show wpAny _ _ (exec (Stmt.For _ _ _ _ _) _) _ _ _)); (fail_if_success (with_reducible show wpAny _ _ (pyIter _) _ _ _)); (fail_if_success (with_reducible show wpAny _ _ (exec (Stmt.While _ _ _ _) _) _ _ _)); first | walk1 | (dsimp only; walk1))
    refine' it_end (_, _) (by assumption) (by assumption) (fun _ h => List.mem_append.mpr (.inl h)) (fun _ h => List.mem_append.mpr (.inr h)) rfl ?hM trivial
    case hM =>
      have e := numFold_take bs hc
      funext y
      dsimp only
      rw [e]
      by_cases h1 : y = Str.ofString "sign"
      · subst h1; rfl
      · by_cases h2 : y = Str.ofString "value"
        · subst h2; rfl
        · simp only [h1, h2, if_false]
  case done =>
    rintro ⟨tv, u'⟩ h tk - F₁ N₁
    change Fr _ _ h _ at F₁
    change News _ _ h _ at N₁
    dsimp only at F₁ N₁
    rw [show figs.cps.toList.take figs.cps.size = figs.cps.toList from List.take_length] at F₁
    repeat' ((fail_if_success (with_reducible show wpAny _ _ (exec (Stmt.For _ _ _ _ _) _) _ _ _)); (fail_if_success (with_reducible show wpAny _ _ (pyIter _) _ _ _)); (fail_if_success (with_reducible show wpAny _ _ (exec (Stmt.While _ _ _ _) _) _ _ _)); first | walk1 | (dsimp only; walk1))
    rename_i D1 hA lA D2 hB FB NB lB
    exact hret _ _ _ _ _ _ _ (ktn_ltOf lA.2) lB.1 _ _ _ FB (news_of NB (List.Sublist.subset (.cons₂ _ (.cons₂ _ (.cons _ (.refl _))))))
end Ep_read_number_ok
theorem read_number_ok (w : World) (news : Ledger) (x y figs z0 z1 : Str) (b e bs : Int) (t u : Tok) (hx : x.length ≤ 1000) (hb0 : 0 ≤ b) (hbe : b < e) (he : e ≤ x.length) (hin : ∀ i, b ≤ i → i < e → ∃ z, Itm x i z ∧ Ins z NAMES true) (hend : e = x.length ∨ ∃ z, Itm x e z ∧ Ins z NAMES false) (hy : Txt.slice x (some b) (some e) = y) (hp : NP w y figs bs) (f1 : Eqs figs (Str.ofString "") false) (f2 : Itm figs 0 z0) (f2' : Eqs z0 (Str.ofString "_") false) (f3' : Itn figs (-1) z1) (f3 : Eqs z1 (Str.ofString "_") false) (f4 : Ins (Str.ofString "__") figs false) (f5 : figs.length ≤ 100) (f6 : Txt.replace figs (Str.ofString "_") (Str.ofString "") = figs) (f7 : ∀ (i c : Nat), figs.cps[i]? = some c → figureWorth ⟨#[c]⟩ < bs) (hb1 : 0 ≤ bs) (hb2 : bs ≤ 16) (f8 : Eqs (Txt.slice x (some e) (some (e + 1))) (Str.ofString ".") false) : Fn w 151 [.str x t, .int b u] news 3 (fun ok => ∀ a1 a2 t1 t2 t3 t4 t5, (∀ p ∈ news, p.1 < a1) → a1 < a2 → ok (.ref a2) ((a2, tupO [.ref a1, .int e t5]) :: (a1, tupO [.str (Str.ofString "int") t1, .str y t2, .int b t3, .int (numFold bs figs.cps.toList) t4]) :: news)) :=
  (cex_all (ne := Ep_read_number_ok.ne) (P := fun d : World × Ledger × Str × Str × Str × Str × Int × Int × Int × Tok × Tok => Ep_read_number_ok.P d.1 d.2.1 d.2.2.1 d.2.2.2.1 d.2.2.2.2.1 d.2.2.2.2.2.1 d.2.2.2.2.2.2.1 d.2.2.2.2.2.2.2.1 d.2.2.2.2.2.2.2.2.1 d.2.2.2.2.2.2.2.2.2.1 d.2.2.2.2.2.2.2.2.2.2) (fun y hx hb0 hbe he hin hend hy hp f1 f2 f2' f3' f3 f4 f5 f6 f7 hb1 hb2 f8 => Ep_read_number_ok.main y hx hb0 hbe he hin hend hy hp f1 f2 f2' f3' f3 f4 f5 f6 f7 hb1 hb2 f8) (w, news, x, figs, z0, z1, b, e, bs, t, u)) y hx hb0 hbe he hin hend hy hp f1 f2 f2' f3' f3 f4 f5 f6 f7 hb1 hb2 f8
local macro_rules | `(tactic| walk_at "call ref") => `(tactic| ((with_reducible show wpAny _ _ (call (Value.ref 98) _) _ _ _); refine fn_useA (is_right_rune_ok _ _ _ _ (by omega) (by omega) (by omega)) ?_; intro h' tk' F' N'))

namespace Ep_figures_read_ok
noncomputable def P (w : World) (news : Ledger) (x : Str) (a : Int) (k : Int) (bs : Int) (sp : Int) (t : Tok) (u : Tok) (u2 : Tok) (u3 : Tok) (u4 : Tok) : Prop := ∀ (figs : Str) (hx : x.length ≤ 1000) (hb1 : 0 ≤ bs) (hb2 : bs ≤ 16) (hs : Txt.slice x (some a) (some (a + k)) = figs) (hk : (figs.length : Int) = k) (f7 : ∀ (i c : Nat), figs.cps[i]? = some c → figureWorth ⟨#[c]⟩ < bs), Fn w 158 [.str x t, .int a u, .int k u2, .int bs u3, .int sp u4] news 2 (fun ok => ∀ t, ok (.int (numFold bs figs.cps.toList) t) news)
theorem ne : Nonempty (World × Ledger × Str × Int × Int × Int × Int × Tok × Tok × Tok × Tok × Tok) := ⟨(wld, default, default, default, default, default, default, default, default, default, default, default)⟩
noncomputable def d : World × Ledger × Str × Int × Int × Int × Int × Tok × Tok × Tok × Tok × Tok := cex ne fun d => P d.1 d.2.1 d.2.2.1 d.2.2.2.1 d.2.2.2.2.1 d.2.2.2.2.2.1 d.2.2.2.2.2.2.1 d.2.2.2.2.2.2.2.1 d.2.2.2.2.2.2.2.2.1 d.2.2.2.2.2.2.2.2.2.1 d.2.2.2.2.2.2.2.2.2.2.1 d.2.2.2.2.2.2.2.2.2.2.2
noncomputable def w : World := d.1
noncomputable def news : Ledger := d.2.1
noncomputable def x : Str := d.2.2.1
noncomputable def a : Int := d.2.2.2.1
noncomputable def k : Int := d.2.2.2.2.1
noncomputable def bs : Int := d.2.2.2.2.2.1
noncomputable def sp : Int := d.2.2.2.2.2.2.1
noncomputable def t : Tok := d.2.2.2.2.2.2.2.1
noncomputable def u : Tok := d.2.2.2.2.2.2.2.2.1
noncomputable def u2 : Tok := d.2.2.2.2.2.2.2.2.2.1
noncomputable def u3 : Tok := d.2.2.2.2.2.2.2.2.2.2.1
noncomputable def u4 : Tok := d.2.2.2.2.2.2.2.2.2.2.2
theorem main (figs : Str) (hx : x.length ≤ 1000) (hb1 : 0 ≤ bs) (hb2 : bs ≤ 16) (hs : Txt.slice x (some a) (some (a + k)) = figs) (hk : (figs.length : Int) = k) (f7 : ∀ (i c : Nat), figs.cps[i]? = some c → figureWorth ⟨#[c]⟩ < bs) : Fn w 158 [.str x t, .int a u, .int k u2, .int bs u3, .int sp u4] news 2 (fun ok => ∀ t, ok (.int (numFold bs figs.cps.toList) t) news) := by
  subst hs
  refine' fn_of_body (binds := [(Str.ofString "text", .str x t), (Str.ofString "at", .int a u), (Str.ofString "many", .int k u2), (Str.ofString "base", .int bs u3), (Str.ofString "spot", .int sp u4)]) ?ho ?hcd ?hb ?hl ?hc ?hR ?body ?c1 ?c2 ?c3
  (case ho => k_is)
  (case hcd => k_is)
  (case hb => rfl)
  (case hl => rfl)
  (case hc => decide)
  (case hR => exact (fun _ _ h k t => h _ _ (k t)))
  (case c1 => rfl)
  (case c2 => rfl)
  (case c3 => rfl)
  refine bd_eps ?_
  intro B F X N T hd hu hret
  have hx' : x.length ≤ 100000 := by omega
  repeat' ((fail_if_success (with_reducible show wpAny _ _ (exec (Stmt.For _ _ _ _ _) _) _ _ _)); (fail_if_success (with_reducible show wpAny _ _ (pyIter _) _ _ _)); (fail_if_success (with_reducible show wpAny _ _ (exec (Stmt.While _ _ _ _) _) _ _ _)); first | walk1 | (dsimp only; walk1))
  refine For_invVF (by assumption) rfl rfl ?_ (hE := PassesOwn.never)
  repeat' ((fail_if_success (with_reducible show wpAny _ _ (exec (Stmt.For _ _ _ _ _) _) _ _ _)); (fail_if_success (with_reducible show wpAny _ _ (pyIter _) _ _ _)); (fail_if_success (with_reducible show wpAny _ _ (exec (Stmt.While _ _ _ _) _) _ _ _)); first | walk1 | (dsimp only; walk1))
  generalize hfg : Txt.slice x (some a) (some (a + k)) = figs at *
  refine' it_str (σ := Tok × Option Value) (fun _ _ => True) (fun i c m₀ y => if y = Str.ofString "sign" then c.2 else if y = Str.ofString "value" then some (.int (numFold bs (figs.cps.toList.take i)) c.1) else m₀ y) (fun _ _ n => n) (_, none) rfl (by assumption) (by assumption) trivial ?hM rfl ?turn ?done
  case hM =>
    funext y
    by_cases h1 : y = Str.ofString "sign"
    · subst h1; rfl
    · by_cases h2 : y = Str.ofString "value"
      · subst h2; rfl
      · simp only [h1, h2, if_false]
  case turn =>
    rintro i c tc ⟨tv, u'⟩ h tk own hc hoff - F₁ N₁
    have hw := f7 i c hc
    change Fr _ _ h _ at F₁
    change News _ _ h _ at N₁
    dsimp only at F₁ N₁
    have hcl : (Str.mk #[c]).length ≤ 1000 := by show 1 ≤ 1000; omega
    repeat' ((fail_if_success (with_reducible show wpAny _ _ (exec (Stmt.For _ _ _ _ _) _) _ _ _)); (fail_if_success (with_reducible show wpAny _ _ (pyIter _) _ _ _)); (fail_if_success (with_reducible show wpAny _ _ (exec (Stmt.While _ _ _ _) _) _ _ _)); first | walk1 | (dsimp only; walk1))
    refine' it_end (_, _) (by assumption) (by assumption) (fun _ h => List.mem_append.mpr (.inl h)) (fun _ h => List.mem_append.mpr (.inr h)) rfl ?hM trivial
    case hM =>
      have e := numFold_take bs hc
      funext y
      dsimp only
      rw [e]
      by_cases h1 : y = Str.ofString "sign"
      · subst h1; rfl
      · by_cases h2 : y = Str.ofString "value"
        · subst h2; rfl
        · simp only [h1, h2, if_false]
  case done =>
    rintro ⟨tv, u'⟩ h tk - F₁ N₁
    change Fr _ _ h _ at F₁
    change News _ _ h _ at N₁
    dsimp only at F₁ N₁
    rw [show figs.cps.toList.take figs.cps.size = figs.cps.toList from List.take_length] at F₁
    repeat' ((fail_if_success (with_reducible show wpAny _ _ (exec (Stmt.For _ _ _ _ _) _) _ _ _)); (fail_if_success (with_reducible show wpAny _ _ (pyIter _) _ _ _)); (fail_if_success (with_reducible show wpAny _ _ (exec (Stmt.While _ _ _ _) _) _ _ _)); first | walk1 | (dsimp only; walk1))
    exact hret _ _ _ _ (by assumption) (by assumption)

end Ep_figures_read_ok
theorem figures_read_ok (w : World) (news : Ledger) (x figs : Str) (a k bs sp : Int) (t u u2 u3 u4 : Tok) (hx : x.length ≤ 1000) (hb1 : 0 ≤ bs) (hb2 : bs ≤ 16) (hs : Txt.slice x (some a) (some (a + k)) = figs) (hk : (figs.length : Int) = k) (f7 : ∀ (i c : Nat), figs.cps[i]? = some c → figureWorth ⟨#[c]⟩ < bs) : Fn w 158 [.str x t, .int a u, .int k u2, .int bs u3, .int sp u4] news 2 (fun ok => ∀ t, ok (.int (numFold bs figs.cps.toList) t) news) :=
  (cex_all (ne := Ep_figures_read_ok.ne) (P := fun d : World × Ledger × Str × Int × Int × Int × Int × Tok × Tok × Tok × Tok × Tok => Ep_figures_read_ok.P d.1 d.2.1 d.2.2.1 d.2.2.2.1 d.2.2.2.2.1 d.2.2.2.2.2.1 d.2.2.2.2.2.2.1 d.2.2.2.2.2.2.2.1 d.2.2.2.2.2.2.2.2.1 d.2.2.2.2.2.2.2.2.2.1 d.2.2.2.2.2.2.2.2.2.2.1 d.2.2.2.2.2.2.2.2.2.2.2) (fun figs hx hb1 hb2 hs hk f7 => Ep_figures_read_ok.main figs hx hb1 hb2 hs hk f7) (w, news, x, a, k, bs, sp, t, u, u2, u3, u4)) figs hx hb1 hb2 hs hk f7
theorem plain_rune_ok (w : World) (news : Ledger) (x : Str) (a : Int) (c : Nat) (t u : Tok) (hx : x.length ≤ 1000) (hc : Itm x a ⟨#[c]⟩) (hr : c < 55296) :
    Fn w 172 [.str x t, .int a u] news 2 (fun ok => ∀ t, ok (.int c t) news) := by
  refine' fn_of_body (binds := [(Str.ofString "text", .str x t), (Str.ofString "at", .int a u)]) ?ho ?hcd ?hb ?hl ?hc ?hR ?body ?c1 ?c2 ?c3
  (case ho => k_is)
  (case hcd => k_is)
  (case hb => rfl)
  (case hl => rfl)
  (case hc => decide)
  (case hR => exact (fun _ _ h k t => h _ _ (k t)))
  (case c1 => rfl)
  (case c2 => rfl)
  (case c3 => rfl)
  intro mean mg mb dp un gd outer A₀ base g L s Q B F X N T hd hu hret
  have hx' : x.length ≤ 100000 := by omega
  repeat' ((fail_if_success (with_reducible show wpAny _ _ (exec (Stmt.For _ _ _ _ _) _) _ _ _)); (fail_if_success (with_reducible show wpAny _ _ (pyIter _) _ _ _)); (fail_if_success (with_reducible show wpAny _ _ (exec (Stmt.While _ _ _ _) _) _ _ _)); first | walk1 | (dsimp only; walk1))
  all_goals exact hret _ _ _ _ (by assumption) (by assumption)
local macro_rules | `(tactic| walk_at "callWith") => `(tactic| ((with_unfolding_all show wpAny _ _ (callWith _ (Value.type "bytes") [] (backTo _ (starEach (_ :: _) _)) _) _ _ _); k_dflt (refine PyProof.Rows.callWith_type1 (T := "bytes") ?_)))
section
local macro_rules | `(tactic| walk_at "eval Name") => `(tactic| (name_kind "cell"; k_dflt (refine' ldCN ?kcN ?kcc ?kcm ?kcd ?_; (case kcN => assumption); (case kcc => rfl); (case kcm => news_mem); (case kcd => assumption))))
local macro_rules | `(tactic| walk_at "call type:bytes") => `(tactic| (refine' KBa.make_K (ns := [r]) (by assumption) (by assumption) rfl (News.isList (by assumption) (by k_mem)) ?kbai (by assumption) (by show 1 ≤ _; omega) ?_; (case kbai => exact .cons rfl .nil); intro h1' t1' tk1' FB NB _))
/-- A def's body in its own frame, with cells. -/
noncomputable def BdX (w : World) (qual : Str) (scope : Scope) (f : Addr) (cdv : Value) (body : List Stmt) (binds : List (Str × Value)) (news : Ledger) (D : Nat) (R : Ok → Prop) : Prop :=
  ∀ (mean : ExcName → Option Value) (mg mb : Str → Option Value) (dp un : Nat) (gd : Option (List Code)) (outer : List Env) (A₀ : Around) (base g : Heap) (L : Addr) (s : Shared) (Q : Flow → Shared → Prop) (cells : Ledger),
    Below A₀ base outer g → Fr g L s.heap (bindL (envOfC qual scope L f cdv).kindOf binds fun _ => none) → (Mine.fr.heap_1 w.params).In g → News g L s.heap (cells ++ news) → Top Mine.view LO mean mg mb g →
    CellsAre (bindC (envOfC qual scope L f cdv).kindOf binds fun _ => none) (cellsFrom (L + 1) scope.names []) cells → (∀ p ∈ news, p.1 < L) →
    dp + D < recursionLimit → un + 8 * D < cLine →
    R (fun v news' => ∀ h' tk' m', Fr g L h' m' → News g L h' news' → Q (.ret v) { s with heap := h', toks := tk' }) →
    wpAny (model PRG w) (ktrTop dp un gd qual scope L f cdv (cellsFrom (L + 1) scope.names []) outer) (execs body (envX qual scope L f cdv (cellsFrom (L + 1) scope.names []))) Q NoE s

theorem fn_of_bodyX {w : World} {name qual : Str} {params : Arguments} {body : List Stmt} {scope : Scope} {dV kV doc pm cdv ct oc : Value} {an od : Option Addr} {osl : Array (Option Value)} {f : Addr} {vs : List Value} {binds : List (Str × Value)} {news : Ledger} {D : Nat} {R : Ok → Prop}
    (ho : (Mine.fr.heap_1 w.params).lookup f = some ⟨oc, od, .func (fnOf name qual params body scope dV kV doc pm an cdv ct), osl⟩) (hcd : codeIn (Mine.fr.heap_1 w.params) cdv qual = true)
    (hbind : bindArgs (fnOf name qual params body scope dV kV doc pm an cdv ct) ⟨vs, []⟩ = pure binds)
    (hkind : (binds.all fun y => scope.names.lookup y.1 == some .local || scope.names.lookup y.1 == some .cell) = true)
    (hnd : ((cellsFrom 0 scope.names []).map (·.1)).Nodup)
    (hR : ∀ ok ok' : Ok, (∀ v n, ok v n → ok' v n) → R ok → R ok')
    (h : BdX w qual scope f cdv body binds news D R)
    (hco : scope.isCoroutine = false := by rfl) (hgen : scope.isGenerator = false := by rfl) (hk : scope.kind = .function := by rfl)  : Fn w f vs news (D + 1) R := by
  intro mean mg mb dp un gd cn cs a ccd cl outer A₀ base h₀ L m s Q B F X N T hks hd hu hret
  refine wpAny_call ?_
  refine code_defC B F X N T rfl rfl hks ho hcd (by show dp < recursionLimit; omega) (BindsTo.of_eq hbind) hkind hnd ?_ hco hgen hk
  intro g L' h₁ tk cells FG F' N' Y B' X' T' l1
  refine wpAny_mono (h mean mg mb (dp + 1) (un + 3) gd (envX cn cs L a ccd cl :: outer) _ base g L' _ (fun fl s' => LeaveK h₀ L m g (fun r s' => match r with | .ok (.ret v) => Q v s' | .ok _ => False | .error e => NoE e s') (match fl with | .ret v => v | _ => .none) s') cells B' F' X' N' T' Y l1 (by omega) (by omega) ?_) (fun _ _ x => x) (fun _ _ x => x.elim)
  refine hR _ _ ?_ hret
  intro v n hok h' tk' m' F2 N2
  exact leaveK_ F2 N2 fun F3 N3 => hok h' tk' F3 N3


theorem octets_of_rune_ok (w : World) (news : Ledger) (r : Int) (t : Tok) (h0 : 0 ≤ r) (h1 : r < 128) :
    Fn w 103 [.int r t] news 2 (fun ok => ∀ t, ok (.bytes (byteArr [r]) t) news) := by
  refine' fn_of_bodyX (binds := [(Str.ofString "rune", .int r t)]) ?ho ?hcd ?hb ?hl ?hc ?hR ?body ?c1 ?c2 ?c3
  (case ho => k_is)
  (case hcd => k_is)
  (case hb => rfl)
  (case hl => rfl)
  (case hc => decide +kernel)
  (case hR => exact fun _ _ h k t => h _ _ (k t))
  (case c1 => rfl)
  (case c2 => rfl)
  (case c3 => rfl)
  intro mean mg mb dp un gd outer A₀ base g L s Q cells B F X N T Y l1 hd hu hret
  obtain ⟨o, rfl, ho⟩ := CellsAre.one Y
  change o.data = .cell (some (.int r t)) at ho
  change Fr g L s.heap (fun _ => none) at F
  simp only [List.cons_append, List.nil_append] at N
  have hb : ∀ n ∈ [r], 0 ≤ n ∧ n < 256 := by intro n hn; rw [List.mem_singleton.mp hn]; omega
  repeat' ((fail_if_success (with_reducible show wpAny _ _ (exec (Stmt.For _ _ _ _ _) _) _ _ _)); (fail_if_success (with_reducible show wpAny _ _ (pyIter _) _ _ _)); (fail_if_success (with_reducible show wpAny _ _ (exec (Stmt.While _ _ _ _) _) _ _ _)); first | walk1 | (dsimp only; walk1))
  refine hret _ _ _ _ (by assumption) ?_
  refine news_of (by assumption) ?_
  exact fun p hp => .tail _ (.tail _ hp)
end
section
local macro_rules | `(tactic| walk_at "call ref") => `(tactic| ((with_reducible show wpAny _ _ (call (Value.ref 158) _) _ _ _); refine fn_useA (figures_read_ok _ _ _ _ _ _ _ _ _ _ _ _ _ (by omega) (by omega) (by omega) (by with_reducible assumption) (by assumption) (by assumption)) ?_; intro t' h' tk' F' N'))

namespace Ep_read_escape_x
noncomputable def P (w : World) (news : Ledger) (x : Str) (figs : Str) (a : Int) (t : Tok) (u : Tok) (v : Tok) : Prop := ∀ (hx : x.length ≤ 1000) (h0 : 0 ≤ a) (h1 : Slc x (a + 1) (a + 2) (Str.ofString "x")) (hs : Txt.slice x (some (a + 2)) (some (a + 2 + 2)) = figs) (hk : (figs.length : Int) = 2) (f7 : ∀ (i c : Nat), figs.cps[i]? = some c → figureWorth ⟨#[c]⟩ < 16), Fn w 165 [.str x t, .int a u, .str (Str.ofString "\"") v] news 3 (fun ok => ∀ p t1 t2, (∀ q ∈ news, q.1 < p) → ok (.ref p) ((p, tupO [.int (numFold 16 figs.cps.toList) t1, .bool true, .int (a + 2 + 2) t2]) :: news))
theorem ne : Nonempty (World × Ledger × Str × Str × Int × Tok × Tok × Tok) := ⟨(wld, default, default, default, default, default, default, default)⟩
noncomputable def d : World × Ledger × Str × Str × Int × Tok × Tok × Tok := cex ne fun d => P d.1 d.2.1 d.2.2.1 d.2.2.2.1 d.2.2.2.2.1 d.2.2.2.2.2.1 d.2.2.2.2.2.2.1 d.2.2.2.2.2.2.2
noncomputable def w : World := d.1
noncomputable def news : Ledger := d.2.1
noncomputable def x : Str := d.2.2.1
noncomputable def figs : Str := d.2.2.2.1
noncomputable def a : Int := d.2.2.2.2.1
noncomputable def t : Tok := d.2.2.2.2.2.1
noncomputable def u : Tok := d.2.2.2.2.2.2.1
noncomputable def v : Tok := d.2.2.2.2.2.2.2
theorem main (hx : x.length ≤ 1000) (h0 : 0 ≤ a) (h1 : Slc x (a + 1) (a + 2) (Str.ofString "x")) (hs : Txt.slice x (some (a + 2)) (some (a + 2 + 2)) = figs) (hk : (figs.length : Int) = 2) (f7 : ∀ (i c : Nat), figs.cps[i]? = some c → figureWorth ⟨#[c]⟩ < 16) : Fn w 165 [.str x t, .int a u, .str (Str.ofString "\"") v] news 3 (fun ok => ∀ p t1 t2, (∀ q ∈ news, q.1 < p) → ok (.ref p) ((p, tupO [.int (numFold 16 figs.cps.toList) t1, .bool true, .int (a + 2 + 2) t2]) :: news)) := by
  refine' fn_of_body (binds := [(Str.ofString "text", .str x t), (Str.ofString "at", .int a u), (Str.ofString "quote", .str (Str.ofString "\"") v)]) ?ho ?hcd ?hb ?hl ?hc ?hR ?body ?c1 ?c2 ?c3
  (case ho => k_is)
  (case hcd => k_is)
  (case hb => rfl)
  (case hl => rfl)
  (case hc => decide)
  (case hR => exact (fun _ _ h k p t1 t2 l => h _ _ (k p t1 t2 l)))
  (case c1 => rfl)
  (case c2 => rfl)
  (case c3 => rfl)
  refine bd_eps ?_
  intro B F X N T hd hu hret
  have hx' : x.length ≤ 100000 := by omega
  repeat' ((fail_if_success (with_reducible show wpAny _ _ (exec (Stmt.For _ _ _ _ _) _) _ _ _)); (fail_if_success (with_reducible show wpAny _ _ (pyIter _) _ _ _)); (fail_if_success (with_reducible show wpAny _ _ (exec (Stmt.While _ _ _ _) _) _ _ _)); first | walk1 | (dsimp only; walk1))
  rename_i D1 hA FA NA lA
  rw [show (Str.ofString "x" == Str.ofString "x") = true from by decide] at NA
  exact hret _ _ _ lA _ _ _ FA NA

end Ep_read_escape_x
theorem read_escape_x (w : World) (news : Ledger) (x figs : Str) (a : Int) (t u v : Tok) (hx : x.length ≤ 1000) (h0 : 0 ≤ a) (h1 : Slc x (a + 1) (a + 2) (Str.ofString "x")) (hs : Txt.slice x (some (a + 2)) (some (a + 2 + 2)) = figs) (hk : (figs.length : Int) = 2) (f7 : ∀ (i c : Nat), figs.cps[i]? = some c → figureWorth ⟨#[c]⟩ < 16) : Fn w 165 [.str x t, .int a u, .str (Str.ofString "\"") v] news 3 (fun ok => ∀ p t1 t2, (∀ q ∈ news, q.1 < p) → ok (.ref p) ((p, tupO [.int (numFold 16 figs.cps.toList) t1, .bool true, .int (a + 2 + 2) t2]) :: news)) :=
  (cex_all (ne := Ep_read_escape_x.ne) (P := fun d : World × Ledger × Str × Str × Int × Tok × Tok × Tok => Ep_read_escape_x.P d.1 d.2.1 d.2.2.1 d.2.2.2.1 d.2.2.2.2.1 d.2.2.2.2.2.1 d.2.2.2.2.2.2.1 d.2.2.2.2.2.2.2) (fun hx h0 h1 hs hk f7 => Ep_read_escape_x.main hx h0 h1 hs hk f7) (w, news, x, figs, a, t, u, v)) hx h0 h1 hs hk f7
namespace Ep_read_escape_U
noncomputable def P (w : World) (news : Ledger) (x : Str) (figs : Str) (a : Int) (t : Tok) (u : Tok) (v : Tok) : Prop := ∀ (hx : x.length ≤ 1000) (h0 : 0 ≤ a) (h1 : Slc x (a + 1) (a + 2) (Str.ofString "U")) (hs : Txt.slice x (some (a + 2)) (some (a + 2 + 8)) = figs) (hk : (figs.length : Int) = 8) (f7 : ∀ (i c : Nat), figs.cps[i]? = some c → figureWorth ⟨#[c]⟩ < 16) (r0 : 0 ≤ numFold 16 figs.cps.toList) (r1 : numFold 16 figs.cps.toList ≤ 1114111) (r2 : numFold 16 figs.cps.toList < 55296 ∨ 57343 < numFold 16 figs.cps.toList), Fn w 165 [.str x t, .int a u, .str (Str.ofString "'") v] news 3 (fun ok => ∀ p t1 t2, (∀ q ∈ news, q.1 < p) → ok (.ref p) ((p, tupO [.int (numFold 16 figs.cps.toList) t1, .bool false, .int (a + 2 + 8) t2]) :: news))
theorem ne : Nonempty (World × Ledger × Str × Str × Int × Tok × Tok × Tok) := ⟨(wld, default, default, default, default, default, default, default)⟩
noncomputable def d : World × Ledger × Str × Str × Int × Tok × Tok × Tok := cex ne fun d => P d.1 d.2.1 d.2.2.1 d.2.2.2.1 d.2.2.2.2.1 d.2.2.2.2.2.1 d.2.2.2.2.2.2.1 d.2.2.2.2.2.2.2
noncomputable def w : World := d.1
noncomputable def news : Ledger := d.2.1
noncomputable def x : Str := d.2.2.1
noncomputable def figs : Str := d.2.2.2.1
noncomputable def a : Int := d.2.2.2.2.1
noncomputable def t : Tok := d.2.2.2.2.2.1
noncomputable def u : Tok := d.2.2.2.2.2.2.1
noncomputable def v : Tok := d.2.2.2.2.2.2.2
theorem main (hx : x.length ≤ 1000) (h0 : 0 ≤ a) (h1 : Slc x (a + 1) (a + 2) (Str.ofString "U")) (hs : Txt.slice x (some (a + 2)) (some (a + 2 + 8)) = figs) (hk : (figs.length : Int) = 8) (f7 : ∀ (i c : Nat), figs.cps[i]? = some c → figureWorth ⟨#[c]⟩ < 16) (r0 : 0 ≤ numFold 16 figs.cps.toList) (r1 : numFold 16 figs.cps.toList ≤ 1114111) (r2 : numFold 16 figs.cps.toList < 55296 ∨ 57343 < numFold 16 figs.cps.toList) : Fn w 165 [.str x t, .int a u, .str (Str.ofString "'") v] news 3 (fun ok => ∀ p t1 t2, (∀ q ∈ news, q.1 < p) → ok (.ref p) ((p, tupO [.int (numFold 16 figs.cps.toList) t1, .bool false, .int (a + 2 + 8) t2]) :: news)) := by
  refine' fn_of_body (binds := [(Str.ofString "text", .str x t), (Str.ofString "at", .int a u), (Str.ofString "quote", .str (Str.ofString "'") v)]) ?ho ?hcd ?hb ?hl ?hc ?hR ?body ?c1 ?c2 ?c3
  (case ho => k_is)
  (case hcd => k_is)
  (case hb => rfl)
  (case hl => rfl)
  (case hc => decide)
  (case hR => exact (fun _ _ h k p t1 t2 l => h _ _ (k p t1 t2 l)))
  (case c1 => rfl)
  (case c2 => rfl)
  (case c3 => rfl)
  refine bd_eps ?_
  intro B F X N T hd hu hret
  have hx' : x.length ≤ 100000 := by omega
  repeat' ((fail_if_success (with_reducible show wpAny _ _ (exec (Stmt.For _ _ _ _ _) _) _ _ _)); (fail_if_success (with_reducible show wpAny _ _ (pyIter _) _ _ _)); (fail_if_success (with_reducible show wpAny _ _ (exec (Stmt.While _ _ _ _) _) _ _ _)); first | walk1 | (dsimp only; walk1))
  rename_i D1 hA FA NA lA
  rw [show (Str.ofString "U" == Str.ofString "x") = false from by decide] at NA
  exact hret _ _ _ lA _ _ _ FA NA
end Ep_read_escape_U
theorem read_escape_U (w : World) (news : Ledger) (x figs : Str) (a : Int) (t u v : Tok) (hx : x.length ≤ 1000) (h0 : 0 ≤ a) (h1 : Slc x (a + 1) (a + 2) (Str.ofString "U")) (hs : Txt.slice x (some (a + 2)) (some (a + 2 + 8)) = figs) (hk : (figs.length : Int) = 8) (f7 : ∀ (i c : Nat), figs.cps[i]? = some c → figureWorth ⟨#[c]⟩ < 16) (r0 : 0 ≤ numFold 16 figs.cps.toList) (r1 : numFold 16 figs.cps.toList ≤ 1114111) (r2 : numFold 16 figs.cps.toList < 55296 ∨ 57343 < numFold 16 figs.cps.toList) : Fn w 165 [.str x t, .int a u, .str (Str.ofString "'") v] news 3 (fun ok => ∀ p t1 t2, (∀ q ∈ news, q.1 < p) → ok (.ref p) ((p, tupO [.int (numFold 16 figs.cps.toList) t1, .bool false, .int (a + 2 + 8) t2]) :: news)) :=
  (cex_all (ne := Ep_read_escape_U.ne) (P := fun d : World × Ledger × Str × Str × Int × Tok × Tok × Tok => Ep_read_escape_U.P d.1 d.2.1 d.2.2.1 d.2.2.2.1 d.2.2.2.2.1 d.2.2.2.2.2.1 d.2.2.2.2.2.2.1 d.2.2.2.2.2.2.2) (fun hx h0 h1 hs hk f7 r0 r1 r2 => Ep_read_escape_U.main hx h0 h1 hs hk f7 r0 r1 r2) (w, news, x, figs, a, t, u, v)) hx h0 h1 hs hk f7 r0 r1 r2
end
section
local macro_rules | `(tactic| walk_at "pad") => `(tactic| skip)
noncomputable def find4 (x y : Str) (i j : Int) : Int := match Builtin.Str.occurrences y x 0 0 0, Builtin.Str.occurrences x y (fromIndex x.length i) (min (fromIndex x.length j) x.length) 1 with | _, k :: _ => (k : Int) | _, [] => -1
theorem gives_find4 (x y : Str) (i j : Int) (t u v v' : Tok) : Gives (Builtin.«str.find» ⟨[.str x t, .str y u, .int i v, .int j v'], []⟩) (.int (find4 x y i j)) := by
  show Gives (match Builtin.Str.occurrences x y (fromIndex x.length i) (min (fromIndex x.length j) x.length) 1 with | k :: _ => retInt k | [] => (do rule "str.find.not-found"; retInt (-1))) _
  unfold find4
  cases Builtin.Str.occurrences x y (fromIndex x.length i) (min (fromIndex x.length j) x.length) 1 with
  | nil => exact .rule (.of_eq rfl)
  | cons k _ => exact .of_eq rfl
noncomputable def Fnd (x y : Str) (i j k : Int) : Prop := find4 x y i j = k
section
variable {prog : Program} {w : World} {A : Around} {E : Value → Shared → Prop} {s : Shared} {x y : Str} {t u v v' : Tok} {i j k : Int} {Q : Value → Shared → Prop}
theorem fnd4 (h : Fnd x y i j k) (hq : Q (.int k s.toks) { s with toks := s.toks + 1 }) : wpAny (model prog w) A (call (.builtin "str.find") [.str x t, .str y u, .int i v, .int j v']) Q E s :=
  call_gives F.slot_str_find (typeIs_str _ _ _) F.entry_str_find (F.args_str_find_4 _ _ _ _) (gives_find4 x y i j t u v v') (by rw [show find4 x y i j = k from h]; exact hq)
end
local macro_rules | `(tactic| walk_at "call builtin:str.find") => `(tactic| refine fnd4 (by with_reducible assumption) ?_)
noncomputable abbrev BLK : Str := Str.ofString " \t\r\n"
noncomputable abbrev blkO (a : Int) (t : Tok) : Obj := tupO [.int a t, .none]
theorem blanks_A (w : World) (news : Ledger) (x y z : Str) (a : Int) (t u : Tok) (hx : x.length ≤ 1000) (hz : Itm x a z) (hb : Ins z BLK false) (hy : Slc x a (a + 2) y) (hn : ([Str.ofString "//", Str.ofString "/*"].any fun x => x == y) = false) :
    Fn w 130 [.str x t, .int a u] news 2 (fun ok => ∀ p t1, (∀ q ∈ news, q.1 < p) → ok (.ref p) ((p, blkO a t1) :: news)) := by
  refine' fn_of_body (binds := [(Str.ofString "text", .str x t), (Str.ofString "at", .int a u)]) ?ho ?hcd ?hb ?hl ?hc ?hR ?body ?c1 ?c2 ?c3
  (case ho => k_is)
  (case hcd => k_is)
  (case hb => rfl)
  (case hl => rfl)
  (case hc => decide)
  (case hR => exact (fun _ _ h k p t1 l => h _ _ (k p t1 l)))
  (case c1 => rfl)
  (case c2 => rfl)
  (case c3 => rfl)
  intro mean mg mb dp un gd outer A₀ base g L s Q B F X N T hd hu hret
  have hx' : x.length ≤ 100000 := by omega
  have hil : a < x.length := hz.2.1
  repeat' ((fail_if_success (with_reducible show wpAny _ _ (exec (Stmt.For _ _ _ _ _) _) _ _ _)); (fail_if_success (with_reducible show wpAny _ _ (pyIter _) _ _ _)); (fail_if_success (with_reducible show wpAny _ _ (exec (Stmt.While _ _ _ _) _) _ _ _)); first | walk1 | (dsimp only; walk1))
  refine While_inv2 (fun n m' nx => m' = _ ∧ nx = news ∧ n = 0) (by assumption) (by assumption) ⟨rfl, rfl, rfl⟩ ?_ PassesOwn.never
  rintro n m₁ news₁ h₁ tk₁ F₁ N₁ ⟨rfl, rfl, rfl⟩
  repeat' ((fail_if_success (with_reducible show wpAny _ _ (exec (Stmt.For _ _ _ _ _) _) _ _ _)); (fail_if_success (with_reducible show wpAny _ _ (pyIter _) _ _ _)); (fail_if_success (with_reducible show wpAny _ _ (exec (Stmt.While _ _ _ _) _) _ _ _)); first | walk1 | (dsimp only; walk1))
  · rename_i D1 hA lA D2 hC FA NA lB
    exact hret _ _ (ktn_ltOf lB.2) _ _ _ FA (news_of NA (fun p hp => by cases hp with | head => exact .head _ | tail _ h => exact .tail _ (.tail _ h)))
theorem blanks_C (w : World) (news : Ledger) (x : Str) (a : Int) (t u : Tok) (hx : x.length ≤ 1000) (hz : a = x.length) :
    Fn w 130 [.str x t, .int a u] news 2 (fun ok => ∀ p t1, (∀ q ∈ news, q.1 < p) → ok (.ref p) ((p, blkO a t1) :: news)) := by
  refine' fn_of_body (binds := [(Str.ofString "text", .str x t), (Str.ofString "at", .int a u)]) ?ho ?hcd ?hb ?hl ?hc ?hR ?body ?c1 ?c2 ?c3
  (case ho => k_is)
  (case hcd => k_is)
  (case hb => rfl)
  (case hl => rfl)
  (case hc => decide)
  (case hR => exact (fun _ _ h k p t1 l => h _ _ (k p t1 l)))
  (case c1 => rfl)
  (case c2 => rfl)
  (case c3 => rfl)
  intro mean mg mb dp un gd outer A₀ base g L s Q B F X N T hd hu hret
  have hx' : x.length ≤ 100000 := by omega
  repeat' ((fail_if_success (with_reducible show wpAny _ _ (exec (Stmt.For _ _ _ _ _) _) _ _ _)); (fail_if_success (with_reducible show wpAny _ _ (pyIter _) _ _ _)); (fail_if_success (with_reducible show wpAny _ _ (exec (Stmt.While _ _ _ _) _) _ _ _)); first | walk1 | (dsimp only; walk1))
  refine While_inv2 (fun n m' nx => m' = _ ∧ nx = news ∧ n = 0) (by assumption) (by assumption) ⟨rfl, rfl, rfl⟩ ?_ PassesOwn.never
  rintro n m₁ news₁ h₁ tk₁ F₁ N₁ ⟨rfl, rfl, rfl⟩
  repeat' ((fail_if_success (with_reducible show wpAny _ _ (exec (Stmt.For _ _ _ _ _) _) _ _ _)); (fail_if_success (with_reducible show wpAny _ _ (pyIter _) _ _ _)); (fail_if_success (with_reducible show wpAny _ _ (exec (Stmt.While _ _ _ _) _) _ _ _)); first | walk1 | (dsimp only; walk1))
  rename_i D1 hA FA NA lA
  exact hret _ _ lA _ _ _ FA NA

theorem blanks_B (w : World) (news : Ledger) (x y z : Str) (a : Int) (t u : Tok) (hx : x.length ≤ 1000) (hz : Itm x a (Str.ofString " ")) (hw : Itm x (a + 1) z) (hb : Ins z BLK false) (hy : Slc x (a + 1) (a + 1 + 2) y) (hn : ([Str.ofString "//", Str.ofString "/*"].any fun x => x == y) = false) (hf : Fnd x (Str.ofString "\n") a (a + 1) (-1)) :
    Fn w 130 [.str x t, .int a u] news 2 (fun ok => ∀ p t1, (∀ q ∈ news, q.1 < p) → ok (.ref p) ((p, blkO (a + 1) t1) :: news)) := by
  refine' fn_of_body (binds := [(Str.ofString "text", .str x t), (Str.ofString "at", .int a u)]) ?ho ?hcd ?hb ?hl ?hc ?hR ?body ?c1 ?c2 ?c3
  (case ho => k_is)
  (case hcd => k_is)
  (case hb => rfl)
  (case hl => rfl)
  (case hc => decide)
  (case hR => exact (fun _ _ h k p t1 l => h _ _ (k p t1 l)))
  (case c1 => rfl)
  (case c2 => rfl)
  (case c3 => rfl)
  intro mean mg mb dp un gd outer A₀ base g L s Q B F X N T hd hu hret
  have hx' : x.length ≤ 100000 := by omega
  have hil : a + 1 < x.length := hw.2.1
  have h0 : 0 ≤ a := hz.1
  have hs0 : Ins (Str.ofString " ") (Str.ofString " \t\r\n") true := by show _ = _; decide +kernel
  have hin : ∀ i, a ≤ i → i < a + 1 → ∃ z, Itm x i z ∧ Ins z (Str.ofString " \t\r\n") true := fun i h1 h2 => ⟨_, (show i = a by omega) ▸ hz, hs0⟩
  have hend : a + 1 = x.length ∨ ∃ z, Itm x (a + 1) z ∧ Ins z (Str.ofString " \t\r\n") false := .inr ⟨z, hw, hb⟩
  repeat' ((fail_if_success (with_reducible show wpAny _ _ (exec (Stmt.For _ _ _ _ _) _) _ _ _)); (fail_if_success (with_reducible show wpAny _ _ (pyIter _) _ _ _)); (fail_if_success (with_reducible show wpAny _ _ (exec (Stmt.While _ _ _ _) _) _ _ _)); first | walk1 | (dsimp only; walk1))
  refine while_st (σ := Option (Tok × Tok)) (fun _ => True) (fun c => if c = none then 1 else 0) (fun c m₀ y => match c with | none => m₀ y | some c => if y = Str.ofString "end" then some (.int (-1) c.1) else if y = Str.ofString "at" then some (.int (a + 1) c.2) else if y = Str.ofString "begin" then some (.int a u) else m₀ y) (fun _ n => n) none (by assumption) (by assumption) trivial rfl rfl ?_ PassesOwn.never
  rintro c h₁ tk₁ - F₁ N₁
  rcases c with _ | ⟨c1, c2⟩
  · dsimp only at F₁ N₁
    repeat' ((fail_if_success (with_reducible show wpAny _ _ (exec (Stmt.For _ _ _ _ _) _) _ _ _)); (fail_if_success (with_reducible show wpAny _ _ (pyIter _) _ _ _)); (fail_if_success (with_reducible show wpAny _ _ (exec (Stmt.While _ _ _ _) _) _ _ _)); first | walk1 | (dsimp only; walk1))
    exact wh_end (some (_, _)) (by assumption) (by assumption) (fun _ h => h) rfl trivial (by simp)
  · dsimp only at F₁ N₁
    repeat' ((fail_if_success (with_reducible show wpAny _ _ (exec (Stmt.For _ _ _ _ _) _) _ _ _)); (fail_if_success (with_reducible show wpAny _ _ (pyIter _) _ _ _)); (fail_if_success (with_reducible show wpAny _ _ (exec (Stmt.While _ _ _ _) _) _ _ _)); first | walk1 | (dsimp only; walk1))
    rename_i D1 hA lA D2 hC FA NA lB
    exact hret _ _ (ktn_ltOf lB.2) _ _ _ FA (news_of NA (fun p hp => by cases hp with | head => exact .head _ | tail _ h => exact .tail _ (.tail _ h)))
end
section
variable {prog : Program} {w : World} {A : Around} {E : Value → Shared → Prop} {s : Shared} {env : Env} {h₀ : Heap} {x : Str} {body : List Stmt} {Q : Flow → Shared → Prop} {m₀ : Map} {news : Ledger} {σ : Type}
theorem it_tup {T : Addr} {items : Array Value} (P : Nat → σ → Prop) (M : Nat → σ → Map → Map) (Nn : Nat → σ → Ledger → Ledger) (c₀ : σ) (hh : A.handled = none) (hT : h₀.IsTuple T items)
    (F : Fr h₀ env.locals s.heap m₀) (N : News h₀ env.locals s.heap news) (h0 : P 0 c₀) (hM : m₀ = M 0 c₀ m₀) (hN : news = Nn 0 c₀ news)
    (turn : ∀ i v d h tk own, items[i]? = some v → OwnOff own (news.map (·.1)) → P i d → Fr h₀ env.locals h (fun y => if y = x then some v else M i d m₀ y) → News h₀ env.locals h (Nn i d news ++ own) →
      wpAny (model prog w) A (execs body env) (ItPost h₀ env.locals P M Nn m₀ news own (i + 1) { s with heap := h, toks := tk } Q) E { s with heap := h, toks := tk })
    (done : ∀ d h tk, P items.size d → Fr h₀ env.locals h (M items.size d m₀) → News h₀ env.locals h (Nn items.size d news) → Q .next { s with heap := h, toks := tk }) :
    wpAny (model prog w) A (pyIter (.ref T)) (fun it s₂ => LoopAtV prog w A h₀ env x body Q E it s₂) E s := by
  obtain ⟨o, ho, hc, n, hd⟩ := hT
  have hto := F.keep _ _ ho
  have hlt : T < s.heap.objs.size := Heap.lt_size hto
  refine wpAny_pyIter_tuple ⟨o, hto, hc, n, hd⟩ ?_
  refine it_gen P M Nn c₀ (Walks.tuple hh s.heap.objs.size T (Nat.ne_of_lt hlt) items) ?_ ?_ ?_ ?_ ?_ (F.push _) (fun p hp => ⟨Heap.get?_push_of_some _ (N p hp).1, (N p hp).2⟩) h0 hM hN ?_ done
  · intro hm
    rcases List.mem_cons.mp hm with e | e
    · exact absurd F.ns.lt (e ▸ Nat.lt_irrefl _)
    · exact absurd (Nat.lt_of_lt_of_le (Heap.lt_size ho) F.above) ((List.mem_singleton.mp e) ▸ Nat.lt_irrefl _)
  · intro b hb
    rw [List.mem_singleton.mp hb]
    exact next_is_new F
  · intro p hp hI
    exact absurd (Heap.lt_size (N p hp).1) ((List.mem_singleton.mp hI) ▸ Nat.lt_irrefl _)
  · intro p hp hI
    rcases List.mem_cons.mp hI with e | e
    · exact absurd (Heap.lt_size (N p hp).1) (e ▸ Nat.lt_irrefl _)
    · have := (N p hp).2.2
      rw [List.mem_singleton.mp e, ho] at this
      cases this
  · exact ⟨⟨_, Heap.get?_push_size _ rfl, rfl, rfl⟩, ⟨o, Heap.get?_push_of_some _ hto, hc, n, hd⟩⟩
  · rintro i v d h tk own hi hv hoff hP F₁ N₁
    exact turn i v d h tk own hv hoff hP F₁ N₁
end

noncomputable def SG : List Str := [Str.ofString "<<=", Str.ofString ">>=", Str.ofString "&^=", Str.ofString "...", Str.ofString "&&", Str.ofString "||", Str.ofString "<-", Str.ofString "++", Str.ofString "--", Str.ofString "==", Str.ofString "!=", Str.ofString "<=", Str.ofString ">=", Str.ofString ":=", Str.ofString "+=", Str.ofString "-=", Str.ofString "*=", Str.ofString "/=", Str.ofString "%=", Str.ofString "&=", Str.ofString "|=", Str.ofString "^=", Str.ofString "<<", Str.ofString ">>", Str.ofString "&^", Str.ofString "+", Str.ofString "-", Str.ofString "*", Str.ofString "/", Str.ofString "%", Str.ofString "&", Str.ofString "|", Str.ofString "^", Str.ofString "<", Str.ofString ">", Str.ofString "=", Str.ofString "!", Str.ofString "(", Str.ofString ")", Str.ofString "[", Str.ofString "]", Str.ofString "{", Str.ofString "}", Str.ofString ",", Str.ofString ";", Str.ofString ".", Str.ofString ":"]
noncomputable def strV (v : Value) (y : Str) : Prop := ∃ t, v = Value.str y t
noncomputable def strOf : Value → Option Str
  | .str y _ => some y
  | _ => none
theorem strs_at {items : Array Value} {l : List Str} (e : items.toList.map strOf = l.map some) : ∀ (i : Nat) (v : Value), items[i]? = some v → ∃ y t, v = Value.str y t ∧ l[i]? = some y := by
  intro i v hv
  have h1 : (items.toList.map strOf)[i]? = some (strOf v) := by
    rw [List.getElem?_map, Array.getElem?_toList, hv]; rfl
  rw [e, List.getElem?_map] at h1
  rcases hl : l[i]? with _ | y
  · rw [hl] at h1; cases h1
  · rw [hl] at h1
    have h2 : some y = strOf v := Option.some.inj h1
    cases v with
    | str z t => exact ⟨z, t, rfl, by rw [show y = z from Option.some.inj h2]⟩
    | _ => cases h2
theorem signs_in (w : World) {g : Heap} (X : (Mine.fr.heap_1 w.params).In g) : ∃ items : Array Value, g.IsTuple 105 items ∧ items.size = 47 ∧ ∀ (i : Nat) (v : Value), items[i]? = some v → ∃ y t, v = Value.str y t ∧ SG[i]? = some y := by
  have h : _ := X 105 _ (by k_is)
  exact ⟨_, ⟨_, h, rfl, _, rfl⟩, rfl, strs_at rfl⟩
namespace Ep_read_sign_ok
noncomputable def P (w : World) (news : Ledger) (x : Str) (a : Int) (t : Tok) (u : Tok) : Prop := ∀ (hx : x.length ≤ 1000) (h0 : 0 ≤ a) (hs : ∀ (i : Nat) (y : Str), i < 43 → SG[i]? = some y → Eqs (Txt.slice x (some a) (some (a + (y.length : Int)))) y false) (hc : Eqs (Txt.slice x (some a) (some (a + ((Str.ofString ",").length : Int)))) (Str.ofString ",") true), Fn w 200 [.str x t, .int a u] news 1 (fun ok => ∀ a1 a2 t1 t2 t3, (∀ p ∈ news, p.1 < a1) → a1 < a2 → ok (.ref a2) ((a2, tupO [.ref a1, .int (a + 1) t3]) :: (a1, tupO [.str (Str.ofString "sign") t1, .str (Str.ofString ",") t2, .int a u, .none]) :: news))
theorem ne : Nonempty (World × Ledger × Str × Int × Tok × Tok) := ⟨(wld, default, default, default, default, default)⟩
noncomputable def d : World × Ledger × Str × Int × Tok × Tok := cex ne fun d => P d.1 d.2.1 d.2.2.1 d.2.2.2.1 d.2.2.2.2.1 d.2.2.2.2.2
noncomputable def w : World := d.1
noncomputable def news : Ledger := d.2.1
noncomputable def x : Str := d.2.2.1
noncomputable def a : Int := d.2.2.2.1
noncomputable def t : Tok := d.2.2.2.2.1
noncomputable def u : Tok := d.2.2.2.2.2
theorem main (hx : x.length ≤ 1000) (h0 : 0 ≤ a) (hs : ∀ (i : Nat) (y : Str), i < 43 → SG[i]? = some y → Eqs (Txt.slice x (some a) (some (a + (y.length : Int)))) y false) (hc : Eqs (Txt.slice x (some a) (some (a + ((Str.ofString ",").length : Int)))) (Str.ofString ",") true) : Fn w 200 [.str x t, .int a u] news 1 (fun ok => ∀ a1 a2 t1 t2 t3, (∀ p ∈ news, p.1 < a1) → a1 < a2 → ok (.ref a2) ((a2, tupO [.ref a1, .int (a + 1) t3]) :: (a1, tupO [.str (Str.ofString "sign") t1, .str (Str.ofString ",") t2, .int a u, .none]) :: news)) := by
  refine' fn_of_body (binds := [(Str.ofString "text", .str x t), (Str.ofString "at", .int a u)]) ?ho ?hcd ?hb ?hl ?hc ?hR ?body ?c1 ?c2 ?c3
  (case ho => k_is)
  (case hcd => k_is)
  (case hb => rfl)
  (case hl => rfl)
  (case hc => decide)
  (case hR => exact (fun _ _ h k a1 a2 t1 t2 t3 l1 l2 => h _ _ (k a1 a2 t1 t2 t3 l1 l2)))
  (case c1 => rfl)
  (case c2 => rfl)
  (case c3 => rfl)
  refine bd_eps ?_
  intro B F X N T hd hu hret
  have hx' : x.length ≤ 100000 := by omega
  repeat' ((fail_if_success (with_reducible show wpAny _ _ (exec (Stmt.For _ _ _ _ _) _) _ _ _)); (fail_if_success (with_reducible show wpAny _ _ (pyIter _) _ _ _)); (fail_if_success (with_reducible show wpAny _ _ (exec (Stmt.While _ _ _ _) _) _ _ _)); first | walk1 | (dsimp only; walk1))
  refine For_invVF (by assumption) rfl rfl ?_ (hE := PassesOwn.never)
  repeat' ((fail_if_success (with_reducible show wpAny _ _ (exec (Stmt.For _ _ _ _ _) _) _ _ _)); (fail_if_success (with_reducible show wpAny _ _ (pyIter _) _ _ _)); (fail_if_success (with_reducible show wpAny _ _ (exec (Stmt.While _ _ _ _) _) _ _ _)); first | walk1 | (dsimp only; walk1))
  obtain ⟨items, hT, hn, hi⟩ := signs_in w X
  refine' it_tup (σ := Option Value) (fun i _ => i ≤ 43) (fun i c m₀ y => if y = Str.ofString "sign" then c else m₀ y) (fun _ _ n => n) none rfl hT (by assumption) (by assumption) (by omega) ?hM rfl ?turn ?done
  case hM =>
    funext y
    by_cases h1 : y = Str.ofString "sign"
    · subst h1; rfl
    · simp only [h1, if_false]
  case done =>
    intro d h tk hP
    rw [hn] at hP
    omega
  case turn =>
    intro i v d h tk own hv hoff hP F₁ N₁
    change Fr _ _ h _ at F₁
    change News _ _ h _ at N₁
    obtain ⟨y, ty, rfl, hy⟩ := hi i v hv
    have hyl : y.length ≤ 100 := by
      have : ∀ y ∈ SG, y.length ≤ 100 := by decide +kernel
      exact this y (List.mem_of_getElem? hy)
    by_cases hlt : i < 43
    · have hq := hs i y hlt hy
      repeat' ((fail_if_success (with_reducible show wpAny _ _ (exec (Stmt.For _ _ _ _ _) _) _ _ _)); (fail_if_success (with_reducible show wpAny _ _ (pyIter _) _ _ _)); (fail_if_success (with_reducible show wpAny _ _ (exec (Stmt.While _ _ _ _) _) _ _ _)); first | walk1 | (dsimp only; walk1))
      refine' it_end (some _) (by assumption) (by assumption) (fun _ h => List.mem_append.mpr (.inl h)) (fun _ h => List.mem_append.mpr (.inr h)) rfl ?hM (show i + 1 ≤ 43 by omega)
      case hM =>
        funext z
        by_cases h1 : z = Str.ofString "sign"
        · subst h1; rfl
        · simp only [h1, if_false]
    · obtain rfl : i = 43 := by omega
      obtain rfl : Str.ofString "," = y := by
        have e : SG[43]? = some (Str.ofString ",") := rfl
        rw [e] at hy
        exact Option.some.inj hy
      have hc' : Eqs (Txt.slice x (some a) (some (a + ((1 : Nat) : Int)))) (Str.ofString ",") true := hc
      repeat' ((fail_if_success (with_reducible show wpAny _ _ (exec (Stmt.For _ _ _ _ _) _) _ _ _)); (fail_if_success (with_reducible show wpAny _ _ (pyIter _) _ _ _)); (fail_if_success (with_reducible show wpAny _ _ (exec (Stmt.While _ _ _ _) _) _ _ _)); first | walk1 | (dsimp only; walk1))
      rename_i D1 hA lA D2 hB FB NB lB
      exact hret _ _ _ _ _ (fun q hq => lA q (List.mem_append.mpr (.inl hq))) lB.1 _ _ _ FB (news_of NB (List.Sublist.subset (.cons₂ _ (.cons₂ _ (List.sublist_append_left _ _)))))
end Ep_read_sign_ok
theorem read_sign_ok (w : World) (news : Ledger) (x : Str) (a : Int) (t u : Tok) (hx : x.length ≤ 1000) (h0 : 0 ≤ a) (hs : ∀ (i : Nat) (y : Str), i < 43 → SG[i]? = some y → Eqs (Txt.slice x (some a) (some (a + (y.length : Int)))) y false) (hc : Eqs (Txt.slice x (some a) (some (a + ((Str.ofString ",").length : Int)))) (Str.ofString ",") true) : Fn w 200 [.str x t, .int a u] news 1 (fun ok => ∀ a1 a2 t1 t2 t3, (∀ p ∈ news, p.1 < a1) → a1 < a2 → ok (.ref a2) ((a2, tupO [.ref a1, .int (a + 1) t3]) :: (a1, tupO [.str (Str.ofString "sign") t1, .str (Str.ofString ",") t2, .int a u, .none]) :: news)) :=
  (cex_all (ne := Ep_read_sign_ok.ne) (P := fun d : World × Ledger × Str × Int × Tok × Tok => Ep_read_sign_ok.P d.1 d.2.1 d.2.2.1 d.2.2.2.1 d.2.2.2.2.1 d.2.2.2.2.2) (fun hx h0 hs hc => Ep_read_sign_ok.main hx h0 hs hc) (w, news, x, a, t, u)) hx h0 hs hc
local macro_rules | `(tactic| walk_at "call ref") => `(tactic| ((with_reducible show wpAny _ _ (call (Value.ref 172) _) _ _ _); refine fn_useA (plain_rune_ok _ _ _ _ _ _ _ (by omega) (by assumption) (by omega)) ?_; intro t' h' tk' F' N'))
section
theorem read_rune_plain (w : World) (news : Ledger) (x y : Str) (b : Int) (c : Nat) (t u : Tok) (hx : x.length ≤ 1000) (h0 : 0 ≤ b)
    (h1 : Slc x (b + 1) (b + 1 + 1) ⟨#[c]⟩) (hn : ([Str.ofString "", Str.ofString "\n", Str.ofString "'"].any fun x => x == ⟨#[c]⟩) = false)
    (hc : Itm x (b + 1) ⟨#[c]⟩) (hb : Eqs ⟨#[c]⟩ (Str.ofString "\\") false) (hr : c < 55296) (h2 : Slc x (b + 1 + 1) (b + 1 + 1 + 1) (Str.ofString "'")) (h2' : Eqs (Str.ofString "'") (Str.ofString "'") true) (h3 : Slc x b (b + 1 + 1 + 1) y) :
    Fn w 193 [.str x t, .int b u] news 3 (fun ok => ∀ a1 a2 t1 t2 t3 t4 t5, (∀ p ∈ news, p.1 < a1) → a1 < a2 → ok (.ref a2) ((a2, tupO [.ref a1, .int (b + 1 + 1 + 1) t5]) :: (a1, tupO [.str (Str.ofString "rune") t1, .str y t2, .int b t3, .int c t4]) :: news)) := by
  refine' fn_of_body (binds := [(Str.ofString "text", .str x t), (Str.ofString "begin", .int b u)]) ?ho ?hcd ?hb ?hl ?hc ?hR ?body ?c1 ?c2 ?c3
  (case ho => k_is)
  (case hcd => k_is)
  (case hb => rfl)
  (case hl => rfl)
  (case hc => decide)
  (case hR => exact (fun _ _ h k a1 a2 t1 t2 t3 t4 t5 l1 l2 => h _ _ (k a1 a2 t1 t2 t3 t4 t5 l1 l2)))
  (case c1 => rfl)
  (case c2 => rfl)
  (case c3 => rfl)
  intro mean mg mb dp un gd outer A₀ base g L s Q B F X N T hd hu hret
  have hx' : x.length ≤ 100000 := by omega
  have hl1 : (Str.mk #[c]).length ≤ 1000 := by show 1 ≤ 1000; omega
  repeat' ((fail_if_success (with_reducible show wpAny _ _ (exec (Stmt.For _ _ _ _ _) _) _ _ _)); (fail_if_success (with_reducible show wpAny _ _ (pyIter _) _ _ _)); (fail_if_success (with_reducible show wpAny _ _ (exec (Stmt.While _ _ _ _) _) _ _ _)); first | walk1 | (dsimp only; walk1))
  refine' hret _ _ _ _ _ _ _ ?l1 ?l2 _ _ _ ?F ?N
  case F => assumption
  case N => exact news_of (by assumption) (List.Sublist.subset (.cons₂ _ (.cons₂ _ (.cons _ (.cons _ (.refl _))))))
  case l1 => exact ktn_ltOf (And.right (And.right (by assumption)))
  case l2 => exact And.left (by assumption)

namespace Ep_read_rune_U
noncomputable def P (w : World) (news : Ledger) (x : Str) (y : Str) (figs : Str) (b : Int) (t : Tok) (u : Tok) : Prop := ∀ (hx : x.length ≤ 1000) (h0 : 0 ≤ b) (h1 : Slc x (b + 1) (b + 1 + 1) (Str.ofString "\\")) (hc : Itm x (b + 1) (Str.ofString "\\")) (hb : Eqs (Str.ofString "\\") (Str.ofString "\\") true) (k1 : Slc x (b + 1 + 1) (b + 1 + 2) (Str.ofString "U")) (hs : Txt.slice x (some (b + 1 + 2)) (some (b + 1 + 2 + 8)) = figs) (hk : (figs.length : Int) = 8) (f7 : ∀ (i c : Nat), figs.cps[i]? = some c → figureWorth ⟨#[c]⟩ < 16) (r0 : 0 ≤ numFold 16 figs.cps.toList) (r1 : numFold 16 figs.cps.toList ≤ 1114111) (r2 : numFold 16 figs.cps.toList < 55296 ∨ 57343 < numFold 16 figs.cps.toList) (h2 : Slc x (b + 1 + 2 + 8) (b + 1 + 2 + 8 + 1) (Str.ofString "'")) (h2' : Eqs (Str.ofString "'") (Str.ofString "'") true) (h3 : Slc x b (b + 1 + 2 + 8 + 1) y), Fn w 193 [.str x t, .int b u] news 4 (fun ok => ∀ a1 a2 t1 t2 t3 t4 t5, (∀ p ∈ news, p.1 < a1) → a1 < a2 → ok (.ref a2) ((a2, tupO [.ref a1, .int (b + 1 + 2 + 8 + 1) t5]) :: (a1, tupO [.str (Str.ofString "rune") t1, .str y t2, .int b t3, .int (numFold 16 figs.cps.toList) t4]) :: news))
theorem ne : Nonempty (World × Ledger × Str × Str × Str × Int × Tok × Tok) := ⟨(wld, default, default, default, default, default, default, default)⟩
noncomputable def d : World × Ledger × Str × Str × Str × Int × Tok × Tok := cex ne fun d => P d.1 d.2.1 d.2.2.1 d.2.2.2.1 d.2.2.2.2.1 d.2.2.2.2.2.1 d.2.2.2.2.2.2.1 d.2.2.2.2.2.2.2
noncomputable def w : World := d.1
noncomputable def news : Ledger := d.2.1
noncomputable def x : Str := d.2.2.1
noncomputable def y : Str := d.2.2.2.1
noncomputable def figs : Str := d.2.2.2.2.1
noncomputable def b : Int := d.2.2.2.2.2.1
noncomputable def t : Tok := d.2.2.2.2.2.2.1
noncomputable def u : Tok := d.2.2.2.2.2.2.2
theorem main (hx : x.length ≤ 1000) (h0 : 0 ≤ b) (h1 : Slc x (b + 1) (b + 1 + 1) (Str.ofString "\\")) (hc : Itm x (b + 1) (Str.ofString "\\")) (hb : Eqs (Str.ofString "\\") (Str.ofString "\\") true) (k1 : Slc x (b + 1 + 1) (b + 1 + 2) (Str.ofString "U")) (hs : Txt.slice x (some (b + 1 + 2)) (some (b + 1 + 2 + 8)) = figs) (hk : (figs.length : Int) = 8) (f7 : ∀ (i c : Nat), figs.cps[i]? = some c → figureWorth ⟨#[c]⟩ < 16) (r0 : 0 ≤ numFold 16 figs.cps.toList) (r1 : numFold 16 figs.cps.toList ≤ 1114111) (r2 : numFold 16 figs.cps.toList < 55296 ∨ 57343 < numFold 16 figs.cps.toList) (h2 : Slc x (b + 1 + 2 + 8) (b + 1 + 2 + 8 + 1) (Str.ofString "'")) (h2' : Eqs (Str.ofString "'") (Str.ofString "'") true) (h3 : Slc x b (b + 1 + 2 + 8 + 1) y) : Fn w 193 [.str x t, .int b u] news 4 (fun ok => ∀ a1 a2 t1 t2 t3 t4 t5, (∀ p ∈ news, p.1 < a1) → a1 < a2 → ok (.ref a2) ((a2, tupO [.ref a1, .int (b + 1 + 2 + 8 + 1) t5]) :: (a1, tupO [.str (Str.ofString "rune") t1, .str y t2, .int b t3, .int (numFold 16 figs.cps.toList) t4]) :: news)) := by
  refine' fn_of_body (binds := [(Str.ofString "text", .str x t), (Str.ofString "begin", .int b u)]) ?ho ?hcd ?hb ?hl ?hc ?hR ?body ?c1 ?c2 ?c3
  (case ho => k_is)
  (case hcd => k_is)
  (case hb => rfl)
  (case hl => rfl)
  (case hc => decide)
  (case hR => exact (fun _ _ h k a1 a2 t1 t2 t3 t4 t5 l1 l2 => h _ _ (k a1 a2 t1 t2 t3 t4 t5 l1 l2)))
  (case c1 => rfl)
  (case c2 => rfl)
  (case c3 => rfl)
  refine bd_eps ?_
  intro B F X N T hd hu hret
  have hx' : x.length ≤ 100000 := by omega
  repeat' ((fail_if_success (with_reducible show wpAny _ _ (exec (Stmt.For _ _ _ _ _) _) _ _ _)); (fail_if_success (with_reducible show wpAny _ _ (pyIter _) _ _ _)); (fail_if_success (with_reducible show wpAny _ _ (exec (Stmt.While _ _ _ _) _) _ _ _)); first | walk1 | (dsimp only; walk1))
  (refine fn_useA (read_escape_U _ _ _ _ _ _ _ _ (by omega) (by omega) (by assumption) (by with_reducible assumption) (by assumption) (by assumption) (by assumption) (by assumption) (by assumption)) ?_; intro _ _ _ _ _ _ _ _)
  repeat' ((fail_if_success (with_reducible show wpAny _ _ (exec (Stmt.For _ _ _ _ _) _) _ _ _)); (fail_if_success (with_reducible show wpAny _ _ (pyIter _) _ _ _)); (fail_if_success (with_reducible show wpAny _ _ (exec (Stmt.While _ _ _ _) _) _ _ _)); first | walk1 | (dsimp only; walk1))
  refine' hret _ _ _ _ _ _ _ ?l1 ?l2 _ _ _ ?F ?N
  case F => assumption
  case N => exact news_of (by assumption) (List.Sublist.subset (.cons₂ _ (.cons₂ _ (.cons _ (.cons _ (.refl _))))))
  case l1 => exact ktn_ltOf (And.right (And.right (by assumption)))
  case l2 => exact And.left (by assumption)
end Ep_read_rune_U
theorem read_rune_U (w : World) (news : Ledger) (x y figs : Str) (b : Int) (t u : Tok) (hx : x.length ≤ 1000) (h0 : 0 ≤ b) (h1 : Slc x (b + 1) (b + 1 + 1) (Str.ofString "\\")) (hc : Itm x (b + 1) (Str.ofString "\\")) (hb : Eqs (Str.ofString "\\") (Str.ofString "\\") true) (k1 : Slc x (b + 1 + 1) (b + 1 + 2) (Str.ofString "U")) (hs : Txt.slice x (some (b + 1 + 2)) (some (b + 1 + 2 + 8)) = figs) (hk : (figs.length : Int) = 8) (f7 : ∀ (i c : Nat), figs.cps[i]? = some c → figureWorth ⟨#[c]⟩ < 16) (r0 : 0 ≤ numFold 16 figs.cps.toList) (r1 : numFold 16 figs.cps.toList ≤ 1114111) (r2 : numFold 16 figs.cps.toList < 55296 ∨ 57343 < numFold 16 figs.cps.toList) (h2 : Slc x (b + 1 + 2 + 8) (b + 1 + 2 + 8 + 1) (Str.ofString "'")) (h2' : Eqs (Str.ofString "'") (Str.ofString "'") true) (h3 : Slc x b (b + 1 + 2 + 8 + 1) y) : Fn w 193 [.str x t, .int b u] news 4 (fun ok => ∀ a1 a2 t1 t2 t3 t4 t5, (∀ p ∈ news, p.1 < a1) → a1 < a2 → ok (.ref a2) ((a2, tupO [.ref a1, .int (b + 1 + 2 + 8 + 1) t5]) :: (a1, tupO [.str (Str.ofString "rune") t1, .str y t2, .int b t3, .int (numFold 16 figs.cps.toList) t4]) :: news)) :=
  (cex_all (ne := Ep_read_rune_U.ne) (P := fun d : World × Ledger × Str × Str × Str × Int × Tok × Tok => Ep_read_rune_U.P d.1 d.2.1 d.2.2.1 d.2.2.2.1 d.2.2.2.2.1 d.2.2.2.2.2.1 d.2.2.2.2.2.2.1 d.2.2.2.2.2.2.2) (fun hx h0 h1 hc hb k1 hs hk f7 r0 r1 r2 h2 h2' h3 => Ep_read_rune_U.main hx h0 h1 hc hb k1 hs hk f7 r0 r1 r2 h2 h2' h3) (w, news, x, y, figs, b, t, u)) hx h0 h1 hc hb k1 hs hk f7 r0 r1 r2 h2 h2' h3
local macro_rules | `(tactic| walk_at "subscriptTail Name Constant ref int") => `(tactic| ((with_reducible show wpAny _ _ (subscriptTail _ _ (Value.ref _) (Value.int _ _)) _ _ _); refine item_tupleL (News.isTup (by assumption) (by first | assumption | exact .head _ | exact .tail _ (by assumption) | exact .tail _ (.tail _ (by assumption)))) (by decide) (by decide) rfl rfl ?_))
theorem ends_line_ok (w : World) (news : Ledger) (a : Addr) (k y : Str) (v1 v2 : Value) (t1 t2 : Tok)
    (hk : ([Str.ofString "name", Str.ofString "int", Str.ofString "rune", Str.ofString "text"].any fun x => x == k) = true) (hm : (a, tupO [.str k t1, .str y t2, v1, v2]) ∈ news) :
    Fn w 214 [.ref a] news 1 (fun ok => ok (.bool true) news) := by
  refine' fn_of_body (binds := [(Str.ofString "word", .ref a)]) ?ho ?hcd ?hb ?hl ?hc ?hR ?body ?c1 ?c2 ?c3
  (case ho => k_is)
  (case hcd => k_is)
  (case hb => rfl)
  (case hl => rfl)
  (case hc => decide)
  (case hR => exact (fun _ _ h k => h _ _ k))
  (case c1 => rfl)
  (case c2 => rfl)
  (case c3 => rfl)
  intro mean mg mb dp un gd outer A₀ base g L s Q B F X N T hd hu hret
  repeat' ((fail_if_success (with_reducible show wpAny _ _ (exec (Stmt.For _ _ _ _ _) _) _ _ _)); (fail_if_success (with_reducible show wpAny _ _ (pyIter _) _ _ _)); (fail_if_success (with_reducible show wpAny _ _ (exec (Stmt.While _ _ _ _) _) _ _ _)); first | walk1 | (dsimp only; walk1))
  rw [hk]
  refine' hret _ _ _ ?F ?N
  case F => assumption
  case N => exact news_of (by assumption) (fun p hp => .tail _ hp)
end
section
local macro_rules | `(tactic| walk_at "pad") => `(tactic| skip)
theorem word_go_151 {w : World} {x : Str} {a : Int} {news : Ledger} {D : Nat} {R : Ok → Prop} (h : ∀ t u, Fn w 151 [.str x t, .int a u] news D R) (t u : Tok) : Fn w 151 [.str x t, .int a u] news D R := h t u
theorem word_go_193 {w : World} {x : Str} {a : Int} {news : Ledger} {D : Nat} {R : Ok → Prop} (h : ∀ t u, Fn w 193 [.str x t, .int a u] news D R) (t u : Tok) : Fn w 193 [.str x t, .int a u] news D R := h t u
theorem word_go_200 {w : World} {x : Str} {a : Int} {news : Ledger} {D : Nat} {R : Ok → Prop} (h : ∀ t u, Fn w 200 [.str x t, .int a u] news D R) (t u : Tok) : Fn w 200 [.str x t, .int a u] news D R := h t u
noncomputable abbrev NBEG : Str := Str.ofString "abcdefghijklmnopqrstuvwxyzABCDEFGHIJKLMNOPQRSTUVWXYZ_"
noncomputable abbrev FIGS : Str := Str.ofString "0123456789"
theorem in_facts : Ins (Str.ofString "'") NBEG false ∧ Ins (Str.ofString "'") FIGS false ∧ Eqs (Str.ofString "'") (Str.ofString "\"") false ∧ Eqs (Str.ofString "'") (Str.ofString "`") false ∧ Eqs (Str.ofString "'") (Str.ofString "'") true := by
  refine ⟨?_, ?_, ?_, ?_, ?_⟩ <;> (show _ = _; decide +kernel)
theorem in_facts2 : Ins (Str.ofString ",") NBEG false ∧ Ins (Str.ofString ",") FIGS false ∧ Eqs (Str.ofString ",") (Str.ofString "\"") false ∧ Eqs (Str.ofString ",") (Str.ofString "`") false ∧ Eqs (Str.ofString ",") (Str.ofString "'") false := by
  refine ⟨?_, ?_, ?_, ?_, ?_⟩ <;> (show _ = _; decide +kernel)
namespace Ep_read_word_num
noncomputable def P (w : World) (news : Ledger) (x : Str) (a : Int) (t : Tok) (u : Tok) (D : Nat) (R : Ok → Prop) (z : Str) : Prop := ∀ (hx : x.length ≤ 1000) (hz : Itm x a z) (z1 : Ins z NBEG false) (z2 : Ins z FIGS true) (hR : ∀ ok ok' : Ok, (∀ v n, ok v n → ok' v n) → R ok → R ok') (hf : ∀ t u, Fn w 151 [.str x t, .int a u] news D R), Fn w 207 [.str x t, .int a u] news (D + 1) R
theorem ne : Nonempty (World × Ledger × Str × Int × Tok × Tok × Nat × (Ok → Prop) × Str) := ⟨(wld, default, default, default, default, default, default, default, default)⟩
noncomputable def d : World × Ledger × Str × Int × Tok × Tok × Nat × (Ok → Prop) × Str := cex ne fun d => P d.1 d.2.1 d.2.2.1 d.2.2.2.1 d.2.2.2.2.1 d.2.2.2.2.2.1 d.2.2.2.2.2.2.1 d.2.2.2.2.2.2.2.1 d.2.2.2.2.2.2.2.2
noncomputable def w : World := d.1
noncomputable def news : Ledger := d.2.1
noncomputable def x : Str := d.2.2.1
noncomputable def a : Int := d.2.2.2.1
noncomputable def t : Tok := d.2.2.2.2.1
noncomputable def u : Tok := d.2.2.2.2.2.1
noncomputable def D : Nat := d.2.2.2.2.2.2.1
noncomputable def R : Ok → Prop := d.2.2.2.2.2.2.2.1
noncomputable def z : Str := d.2.2.2.2.2.2.2.2
theorem main (hx : x.length ≤ 1000) (hz : Itm x a z) (z1 : Ins z NBEG false) (z2 : Ins z FIGS true) (hR : ∀ ok ok' : Ok, (∀ v n, ok v n → ok' v n) → R ok → R ok') (hf : ∀ t u, Fn w 151 [.str x t, .int a u] news D R) : Fn w 207 [.str x t, .int a u] news (D + 1) R := by
  refine' fn_of_body (binds := [(Str.ofString "text", .str x t), (Str.ofString "at", .int a u)]) ?ho ?hcd ?hb ?hl ?hc ?hR ?body ?c1 ?c2 ?c3
  (case ho => k_is)
  (case hcd => k_is)
  (case hb => rfl)
  (case hl => rfl)
  (case hc => decide)
  (case hR => exact hR)
  (case c1 => rfl)
  (case c2 => rfl)
  (case c3 => rfl)
  refine bd_eps ?_
  intro B F X N T hd hu hret
  have hx' : x.length ≤ 100000 := by omega
  repeat' ((fail_if_success (with_reducible show wpAny _ _ (exec (Stmt.For _ _ _ _ _) _) _ _ _)); (fail_if_success (with_reducible show wpAny _ _ (pyIter _) _ _ _)); (fail_if_success (with_reducible show wpAny _ _ (exec (Stmt.While _ _ _ _) _) _ _ _)); first | walk1 | (dsimp only; walk1))
  (refine fn_useA (word_go_151 (by assumption) _ _) ?_)
  refine hR _ _ (fun v n hv h' tk' F' N' => ?_) hret
  repeat' ((fail_if_success (with_reducible show wpAny _ _ (exec (Stmt.For _ _ _ _ _) _) _ _ _)); (fail_if_success (with_reducible show wpAny _ _ (pyIter _) _ _ _)); (fail_if_success (with_reducible show wpAny _ _ (exec (Stmt.While _ _ _ _) _) _ _ _)); first | walk1 | (dsimp only; walk1))
  exact hv _ _ _ F' N'
end Ep_read_word_num
theorem read_word_num (w : World) (news : Ledger) (x : Str) (a : Int) (t u : Tok) (D : Nat) (R : Ok → Prop) (hx : x.length ≤ 1000) (z : Str) (hz : Itm x a z) (z1 : Ins z NBEG false) (z2 : Ins z FIGS true) (hR : ∀ ok ok' : Ok, (∀ v n, ok v n → ok' v n) → R ok → R ok') (hf : ∀ t u, Fn w 151 [.str x t, .int a u] news D R) : Fn w 207 [.str x t, .int a u] news (D + 1) R :=
  (cex_all (ne := Ep_read_word_num.ne) (P := fun d : World × Ledger × Str × Int × Tok × Tok × Nat × (Ok → Prop) × Str => Ep_read_word_num.P d.1 d.2.1 d.2.2.1 d.2.2.2.1 d.2.2.2.2.1 d.2.2.2.2.2.1 d.2.2.2.2.2.2.1 d.2.2.2.2.2.2.2.1 d.2.2.2.2.2.2.2.2) (fun hx hz z1 z2 hR hf => Ep_read_word_num.main hx hz z1 z2 hR hf) (w, news, x, a, t, u, D, R, z)) hx hz z1 z2 hR hf
namespace Ep_read_word_rune
noncomputable def P (w : World) (news : Ledger) (x : Str) (a : Int) (t : Tok) (u : Tok) (D : Nat) (R : Ok → Prop) : Prop := ∀ (hx : x.length ≤ 1000) (hz : Itm x a (Str.ofString "'")) (hR : ∀ ok ok' : Ok, (∀ v n, ok v n → ok' v n) → R ok → R ok') (hf : ∀ t u, Fn w 193 [.str x t, .int a u] news D R), Fn w 207 [.str x t, .int a u] news (D + 1) R
theorem ne : Nonempty (World × Ledger × Str × Int × Tok × Tok × Nat × (Ok → Prop)) := ⟨(wld, default, default, default, default, default, default, default)⟩
noncomputable def d : World × Ledger × Str × Int × Tok × Tok × Nat × (Ok → Prop) := cex ne fun d => P d.1 d.2.1 d.2.2.1 d.2.2.2.1 d.2.2.2.2.1 d.2.2.2.2.2.1 d.2.2.2.2.2.2.1 d.2.2.2.2.2.2.2
noncomputable def w : World := d.1
noncomputable def news : Ledger := d.2.1
noncomputable def x : Str := d.2.2.1
noncomputable def a : Int := d.2.2.2.1
noncomputable def t : Tok := d.2.2.2.2.1
noncomputable def u : Tok := d.2.2.2.2.2.1
noncomputable def D : Nat := d.2.2.2.2.2.2.1
noncomputable def R : Ok → Prop := d.2.2.2.2.2.2.2
theorem main (hx : x.length ≤ 1000) (hz : Itm x a (Str.ofString "'")) (hR : ∀ ok ok' : Ok, (∀ v n, ok v n → ok' v n) → R ok → R ok') (hf : ∀ t u, Fn w 193 [.str x t, .int a u] news D R) : Fn w 207 [.str x t, .int a u] news (D + 1) R := by
  refine' fn_of_body (binds := [(Str.ofString "text", .str x t), (Str.ofString "at", .int a u)]) ?ho ?hcd ?hb ?hl ?hc ?hR ?body ?c1 ?c2 ?c3
  (case ho => k_is)
  (case hcd => k_is)
  (case hb => rfl)
  (case hl => rfl)
  (case hc => decide)
  (case hR => exact hR)
  (case c1 => rfl)
  (case c2 => rfl)
  (case c3 => rfl)
  refine bd_eps ?_
  intro B F X N T hd hu hret
  have hx' : x.length ≤ 100000 := by omega
  obtain ⟨i1, i2, i3, i4, i5⟩ := in_facts
  repeat' ((fail_if_success (with_reducible show wpAny _ _ (exec (Stmt.For _ _ _ _ _) _) _ _ _)); (fail_if_success (with_reducible show wpAny _ _ (pyIter _) _ _ _)); (fail_if_success (with_reducible show wpAny _ _ (exec (Stmt.While _ _ _ _) _) _ _ _)); first | walk1 | (dsimp only; walk1))
  (refine fn_useA (word_go_193 (by assumption) _ _) ?_)
  refine hR _ _ (fun v n hv h' tk' F' N' => ?_) hret
  repeat' ((fail_if_success (with_reducible show wpAny _ _ (exec (Stmt.For _ _ _ _ _) _) _ _ _)); (fail_if_success (with_reducible show wpAny _ _ (pyIter _) _ _ _)); (fail_if_success (with_reducible show wpAny _ _ (exec (Stmt.While _ _ _ _) _) _ _ _)); first | walk1 | (dsimp only; walk1))
  exact hv _ _ _ F' N'
end Ep_read_word_rune
theorem read_word_rune (w : World) (news : Ledger) (x : Str) (a : Int) (t u : Tok) (D : Nat) (R : Ok → Prop) (hx : x.length ≤ 1000) (hz : Itm x a (Str.ofString "'")) (hR : ∀ ok ok' : Ok, (∀ v n, ok v n → ok' v n) → R ok → R ok') (hf : ∀ t u, Fn w 193 [.str x t, .int a u] news D R) : Fn w 207 [.str x t, .int a u] news (D + 1) R :=
  (cex_all (ne := Ep_read_word_rune.ne) (P := fun d : World × Ledger × Str × Int × Tok × Tok × Nat × (Ok → Prop) => Ep_read_word_rune.P d.1 d.2.1 d.2.2.1 d.2.2.2.1 d.2.2.2.2.1 d.2.2.2.2.2.1 d.2.2.2.2.2.2.1 d.2.2.2.2.2.2.2) (fun hx hz hR hf => Ep_read_word_rune.main hx hz hR hf) (w, news, x, a, t, u, D, R)) hx hz hR hf
namespace Ep_read_word_sign
noncomputable def P (w : World) (news : Ledger) (x : Str) (a : Int) (t : Tok) (u : Tok) (D : Nat) (R : Ok → Prop) : Prop := ∀ (hx : x.length ≤ 1000) (hz : Itm x a (Str.ofString ",")) (hR : ∀ ok ok' : Ok, (∀ v n, ok v n → ok' v n) → R ok → R ok') (hf : ∀ t u, Fn w 200 [.str x t, .int a u] news D R), Fn w 207 [.str x t, .int a u] news (D + 1) R
theorem ne : Nonempty (World × Ledger × Str × Int × Tok × Tok × Nat × (Ok → Prop)) := ⟨(wld, default, default, default, default, default, default, default)⟩
noncomputable def d : World × Ledger × Str × Int × Tok × Tok × Nat × (Ok → Prop) := cex ne fun d => P d.1 d.2.1 d.2.2.1 d.2.2.2.1 d.2.2.2.2.1 d.2.2.2.2.2.1 d.2.2.2.2.2.2.1 d.2.2.2.2.2.2.2
noncomputable def w : World := d.1
noncomputable def news : Ledger := d.2.1
noncomputable def x : Str := d.2.2.1
noncomputable def a : Int := d.2.2.2.1
noncomputable def t : Tok := d.2.2.2.2.1
noncomputable def u : Tok := d.2.2.2.2.2.1
noncomputable def D : Nat := d.2.2.2.2.2.2.1
noncomputable def R : Ok → Prop := d.2.2.2.2.2.2.2
theorem main (hx : x.length ≤ 1000) (hz : Itm x a (Str.ofString ",")) (hR : ∀ ok ok' : Ok, (∀ v n, ok v n → ok' v n) → R ok → R ok') (hf : ∀ t u, Fn w 200 [.str x t, .int a u] news D R) : Fn w 207 [.str x t, .int a u] news (D + 1) R := by
  refine' fn_of_body (binds := [(Str.ofString "text", .str x t), (Str.ofString "at", .int a u)]) ?ho ?hcd ?hb ?hl ?hc ?hR ?body ?c1 ?c2 ?c3
  (case ho => k_is)
  (case hcd => k_is)
  (case hb => rfl)
  (case hl => rfl)
  (case hc => decide)
  (case hR => exact hR)
  (case c1 => rfl)
  (case c2 => rfl)
  (case c3 => rfl)
  refine bd_eps ?_
  intro B F X N T hd hu hret
  have hx' : x.length ≤ 100000 := by omega
  obtain ⟨i1, i2, i3, i4, i5⟩ := in_facts2
  repeat' ((fail_if_success (with_reducible show wpAny _ _ (exec (Stmt.For _ _ _ _ _) _) _ _ _)); (fail_if_success (with_reducible show wpAny _ _ (pyIter _) _ _ _)); (fail_if_success (with_reducible show wpAny _ _ (exec (Stmt.While _ _ _ _) _) _ _ _)); first | walk1 | (dsimp only; walk1))
  (refine fn_useA (word_go_200 (by assumption) _ _) ?_)
  refine hR _ _ (fun v n hv h' tk' F' N' => ?_) hret
  repeat' ((fail_if_success (with_reducible show wpAny _ _ (exec (Stmt.For _ _ _ _ _) _) _ _ _)); (fail_if_success (with_reducible show wpAny _ _ (pyIter _) _ _ _)); (fail_if_success (with_reducible show wpAny _ _ (exec (Stmt.While _ _ _ _) _) _ _ _)); first | walk1 | (dsimp only; walk1))
  exact hv _ _ _ F' N'
end Ep_read_word_sign
theorem read_word_sign (w : World) (news : Ledger) (x : Str) (a : Int) (t u : Tok) (D : Nat) (R : Ok → Prop) (hx : x.length ≤ 1000) (hz : Itm x a (Str.ofString ",")) (hR : ∀ ok ok' : Ok, (∀ v n, ok v n → ok' v n) → R ok → R ok') (hf : ∀ t u, Fn w 200 [.str x t, .int a u] news D R) : Fn w 207 [.str x t, .int a u] news (D + 1) R :=
  (cex_all (ne := Ep_read_word_sign.ne) (P := fun d : World × Ledger × Str × Int × Tok × Tok × Nat × (Ok → Prop) => Ep_read_word_sign.P d.1 d.2.1 d.2.2.1 d.2.2.2.1 d.2.2.2.2.1 d.2.2.2.2.2.1 d.2.2.2.2.2.2.1 d.2.2.2.2.2.2.2) (fun hx hz hR hf => Ep_read_word_sign.main hx hz hR hf) (w, news, x, a, t, u, D, R)) hx hz hR hf
theorem strs_are : ∀ {vs : List Value} {l : List Str}, vs.map strOf = l.map some → StrsAre vs l
  | [], [], _ => .nil
  | [], _ :: _, e => by cases e
  | _ :: _, [], e => by cases e
  | v :: vs, y :: l, e => by
    obtain ⟨e1, e2⟩ := List.cons.inj e
    cases v with
    | str z t => rw [show y = z from (Option.some.inj e1).symm]; exact .cons _ _ (strs_are e2)
    | _ => cases e1
noncomputable def KWS : List Str := [Str.ofString "break", Str.ofString "case", Str.ofString "chan", Str.ofString "const", Str.ofString "continue", Str.ofString "default", Str.ofString "defer", Str.ofString "else", Str.ofString "fallthrough", Str.ofString "for", Str.ofString "func", Str.ofString "go", Str.ofString "goto", Str.ofString "if", Str.ofString "\x69mport", Str.ofString "interface", Str.ofString "map", Str.ofString "package", Str.ofString "range", Str.ofString "return", Str.ofString "select", Str.ofString "struct", Str.ofString "switch", Str.ofString "type", Str.ofString "var"]
theorem kws_in (w : World) {g : Heap} (X : (Mine.fr.heap_1 w.params).In g) : ∃ items : Array Value, g.IsTuple 104 items ∧ StrsAre items.toList KWS := by
  have h : _ := X 104 _ (by k_is)
  exact ⟨_, ⟨_, h, rfl, _, rfl⟩, strs_are rfl⟩
section
variable {prog : Program} {w : World} {A : Around} {E : Value → Shared → Prop} {s : Shared} {h₀ : Heap} {L : Addr} {m : Map} {T : Addr} {items : Array Value} {ys : List Str} {x : Str} {u : Tok} {Q : Value → Shared → Prop}
theorem in_tab {b : Bool} (hT : h₀.IsTuple T items) (F : Fr h₀ L s.heap m) (hs : StrsAre items.toList ys) (hb : (ys.any (· == x)) = b) (h : Q (.bool b) s) : wpAny (model prog w) A (compareOp .In (.str x u) (.ref T)) Q E s := by
  obtain ⟨o, ho, r⟩ := hT
  exact in_tuple_strs ⟨o, F.keep _ _ ho, r⟩ hs (by rw [hb]; exact h)
end
local macro_rules | `(tactic| walk_at "compareOp In str ref") => `(tactic| refine in_tab (by assumption) (by assumption) (by assumption) (by assumption) ?_)
namespace Ep_read_word_name
noncomputable def P (w : World) (news : Ledger) (x : Str) (a : Int) (t : Tok) (u : Tok) : Prop := ∀ (hx : x.length ≤ 1000) (hz : Itm x a (Str.ofString "a")) (he : a + 1 = x.length) (hs : Slc x a (a + 1) (Str.ofString "a")), Fn w 207 [.str x t, .int a u] news 2 (fun ok => ∀ a1 a2 t1 t2 t3, (∀ p ∈ news, p.1 < a1) → a1 < a2 → ok (.ref a2) ((a2, tupO [.ref a1, .int (a + 1) t3]) :: (a1, tupO [.str (Str.ofString "name") t1, .str (Str.ofString "a") t2, .int a u, .none]) :: news))
theorem ne : Nonempty (World × Ledger × Str × Int × Tok × Tok) := ⟨(wld, default, default, default, default, default)⟩
noncomputable def d : World × Ledger × Str × Int × Tok × Tok := cex ne fun d => P d.1 d.2.1 d.2.2.1 d.2.2.2.1 d.2.2.2.2.1 d.2.2.2.2.2
noncomputable def w : World := d.1
noncomputable def news : Ledger := d.2.1
noncomputable def x : Str := d.2.2.1
noncomputable def a : Int := d.2.2.2.1
noncomputable def t : Tok := d.2.2.2.2.1
noncomputable def u : Tok := d.2.2.2.2.2
theorem main (hx : x.length ≤ 1000) (hz : Itm x a (Str.ofString "a")) (he : a + 1 = x.length) (hs : Slc x a (a + 1) (Str.ofString "a")) : Fn w 207 [.str x t, .int a u] news 2 (fun ok => ∀ a1 a2 t1 t2 t3, (∀ p ∈ news, p.1 < a1) → a1 < a2 → ok (.ref a2) ((a2, tupO [.ref a1, .int (a + 1) t3]) :: (a1, tupO [.str (Str.ofString "name") t1, .str (Str.ofString "a") t2, .int a u, .none]) :: news)) := by
  refine' fn_of_body (binds := [(Str.ofString "text", .str x t), (Str.ofString "at", .int a u)]) ?ho ?hcd ?hb ?hl ?hc ?hR ?body ?c1 ?c2 ?c3
  (case ho => k_is)
  (case hcd => k_is)
  (case hb => rfl)
  (case hl => rfl)
  (case hc => decide)
  (case hR => exact (fun _ _ h k a1 a2 t1 t2 t3 l1 l2 => h _ _ (k a1 a2 t1 t2 t3 l1 l2)))
  (case c1 => rfl)
  (case c2 => rfl)
  (case c3 => rfl)
  refine bd_eps ?_
  intro B F X N T hd hu hret
  have hx' : x.length ≤ 100000 := by omega
  have h0 : 0 ≤ a := hz.1
  have hal : a < x.length := hz.2.1
  have i1 : Ins (Str.ofString "a") NBEG true := by show _ = _; decide +kernel
  have i2 : Ins (Str.ofString "a") NAMES true := by show _ = _; decide +kernel
  have hin : ∀ i, a ≤ i → i < a + 1 → ∃ z, Itm x i z ∧ Ins z NAMES true := fun i h1 h2 => ⟨_, (show i = a by omega) ▸ hz, i2⟩
  have hend : a + 1 = x.length ∨ ∃ z, Itm x (a + 1) z ∧ Ins z NAMES false := .inl he
  obtain ⟨items, hT, hS⟩ := kws_in w X
  have hkf : (KWS.any (· == Str.ofString "a")) = false := by decide +kernel
  repeat' ((fail_if_success (with_reducible show wpAny _ _ (exec (Stmt.For _ _ _ _ _) _) _ _ _)); (fail_if_success (with_reducible show wpAny _ _ (pyIter _) _ _ _)); (fail_if_success (with_reducible show wpAny _ _ (exec (Stmt.While _ _ _ _) _) _ _ _)); first | walk1 | (dsimp only; walk1))
  refine' hret _ _ _ _ _ ?l1 ?l2 _ _ _ ?F ?N
  case F => assumption
  case N => exact news_of (by assumption) (List.Sublist.subset (.cons₂ _ (.cons₂ _ (.refl _))))
  case l1 => assumption
  case l2 => exact And.left (by assumption)
end Ep_read_word_name
theorem read_word_name (w : World) (news : Ledger) (x : Str) (a : Int) (t u : Tok) (hx : x.length ≤ 1000) (hz : Itm x a (Str.ofString "a")) (he : a + 1 = x.length) (hs : Slc x a (a + 1) (Str.ofString "a")) : Fn w 207 [.str x t, .int a u] news 2 (fun ok => ∀ a1 a2 t1 t2 t3, (∀ p ∈ news, p.1 < a1) → a1 < a2 → ok (.ref a2) ((a2, tupO [.ref a1, .int (a + 1) t3]) :: (a1, tupO [.str (Str.ofString "name") t1, .str (Str.ofString "a") t2, .int a u, .none]) :: news)) :=
  (cex_all (ne := Ep_read_word_name.ne) (P := fun d : World × Ledger × Str × Int × Tok × Tok => Ep_read_word_name.P d.1 d.2.1 d.2.2.1 d.2.2.2.1 d.2.2.2.2.1 d.2.2.2.2.2) (fun hx hz he hs => Ep_read_word_name.main hx hz he hs) (w, news, x, a, t, u)) hx hz he hs
end
namespace Ep_int_text_short
noncomputable def P (w : World) (news : Ledger) (n : Int) (t : Tok) : Prop := ∀ (h0 : 0 ≤ n) (h1 : n < 10 ^ 120) (hl : (Str.ofString (toString n)).length ≤ 100), Fn w 28 [.int n t] news 1 (fun ok => ∀ t, ok (.str (Str.ofString (toString n)) t) news)
theorem ne : Nonempty (World × Ledger × Int × Tok) := ⟨(wld, default, default, default)⟩
noncomputable def d : World × Ledger × Int × Tok := cex ne fun d => P d.1 d.2.1 d.2.2.1 d.2.2.2
noncomputable def w : World := d.1
noncomputable def news : Ledger := d.2.1
noncomputable def n : Int := d.2.2.1
noncomputable def t : Tok := d.2.2.2
theorem main (h0 : 0 ≤ n) (h1 : n < 10 ^ 120) (hl : (Str.ofString (toString n)).length ≤ 100) : Fn w 28 [.int n t] news 1 (fun ok => ∀ t, ok (.str (Str.ofString (toString n)) t) news) := by
  refine' fn_of_body (binds := [(Str.ofString "value", .int n t)]) ?ho ?hcd ?hb ?hl ?hc ?hR ?body ?c1 ?c2 ?c3
  (case ho => k_is)
  (case hcd => k_is)
  (case hb => rfl)
  (case hl => rfl)
  (case hc => decide)
  (case hR => exact (fun _ _ h k t => h _ _ (k t)))
  (case c1 => rfl)
  (case c2 => rfl)
  (case c3 => rfl)
  refine bd_eps ?_
  intro B F X N T hd hu hret
  repeat' ((fail_if_success (with_reducible show wpAny _ _ (exec (Stmt.For _ _ _ _ _) _) _ _ _)); (fail_if_success (with_reducible show wpAny _ _ (pyIter _) _ _ _)); (fail_if_success (with_reducible show wpAny _ _ (exec (Stmt.While _ _ _ _) _) _ _ _)); first | walk1 | (dsimp only; walk1))
  exact hret _ _ _ _ (by assumption) (by assumption)
end Ep_int_text_short
theorem int_text_short (w : World) (news : Ledger) (n : Int) (t : Tok) (h0 : 0 ≤ n) (h1 : n < 10 ^ 120) (hl : (Str.ofString (toString n)).length ≤ 100) : Fn w 28 [.int n t] news 1 (fun ok => ∀ t, ok (.str (Str.ofString (toString n)) t) news) :=
  (cex_all (ne := Ep_int_text_short.ne) (P := fun d : World × Ledger × Int × Tok => Ep_int_text_short.P d.1 d.2.1 d.2.2.1 d.2.2.2) (fun h0 h1 hl => Ep_int_text_short.main h0 h1 hl) (w, news, n, t)) h0 h1 hl
namespace Ep_int_text_long
noncomputable def P (w : World) (news : Ledger) (n : Int) (y : Str) (z : Str) (t : Tok) : Prop := ∀ (h0 : 0 ≤ n) (h1 : n < 10 ^ 120) (hh : Hx n y) (hy : y.length ≤ 1000) (hz : Sln y 2 z) (hzl : z.length ≤ 1000) (hl0 : (Str.ofString (toString n)).length ≤ 1000) (hl : 100 < (Str.ofString (toString n)).length), Fn w 28 [.int n t] news 1 (fun ok => ∀ t, ok (.str (Str.ofString "0x" ++ z) t) news)
theorem ne : Nonempty (World × Ledger × Int × Str × Str × Tok) := ⟨(wld, default, default, default, default, default)⟩
noncomputable def d : World × Ledger × Int × Str × Str × Tok := cex ne fun d => P d.1 d.2.1 d.2.2.1 d.2.2.2.1 d.2.2.2.2.1 d.2.2.2.2.2
noncomputable def w : World := d.1
noncomputable def news : Ledger := d.2.1
noncomputable def n : Int := d.2.2.1
noncomputable def y : Str := d.2.2.2.1
noncomputable def z : Str := d.2.2.2.2.1
noncomputable def t : Tok := d.2.2.2.2.2
theorem main (h0 : 0 ≤ n) (h1 : n < 10 ^ 120) (hh : Hx n y) (hy : y.length ≤ 1000) (hz : Sln y 2 z) (hzl : z.length ≤ 1000) (hl0 : (Str.ofString (toString n)).length ≤ 1000) (hl : 100 < (Str.ofString (toString n)).length) : Fn w 28 [.int n t] news 1 (fun ok => ∀ t, ok (.str (Str.ofString "0x" ++ z) t) news) := by
  refine' fn_of_body (binds := [(Str.ofString "value", .int n t)]) ?ho ?hcd ?hb ?hl ?hc ?hR ?body ?c1 ?c2 ?c3
  (case ho => k_is)
  (case hcd => k_is)
  (case hb => rfl)
  (case hl => rfl)
  (case hc => decide)
  (case hR => exact (fun _ _ h k t => h _ _ (k t)))
  (case c1 => rfl)
  (case c2 => rfl)
  (case c3 => rfl)
  refine bd_eps ?_
  intro B F X N T hd hu hret
  repeat' ((fail_if_success (with_reducible show wpAny _ _ (exec (Stmt.For _ _ _ _ _) _) _ _ _)); (fail_if_success (with_reducible show wpAny _ _ (pyIter _) _ _ _)); (fail_if_success (with_reducible show wpAny _ _ (exec (Stmt.While _ _ _ _) _) _ _ _)); first | walk1 | (dsimp only; walk1))
  exact hret _ _ _ _ (by assumption) (by assumption)
end Ep_int_text_long
theorem int_text_long (w : World) (news : Ledger) (n : Int) (y z : Str) (t : Tok) (h0 : 0 ≤ n) (h1 : n < 10 ^ 120) (hh : Hx n y) (hy : y.length ≤ 1000) (hz : Sln y 2 z) (hzl : z.length ≤ 1000) (hl0 : (Str.ofString (toString n)).length ≤ 1000) (hl : 100 < (Str.ofString (toString n)).length) : Fn w 28 [.int n t] news 1 (fun ok => ∀ t, ok (.str (Str.ofString "0x" ++ z) t) news) :=
  (cex_all (ne := Ep_int_text_long.ne) (P := fun d : World × Ledger × Int × Str × Str × Tok => Ep_int_text_long.P d.1 d.2.1 d.2.2.1 d.2.2.2.1 d.2.2.2.2.1 d.2.2.2.2.2) (fun h0 h1 hh hy hz hzl hl0 hl => Ep_int_text_long.main h0 h1 hh hy hz hzl hl0 hl) (w, news, n, y, z, t)) h0 h1 hh hy hz hzl hl0 hl
noncomputable abbrev RJ (z : Str) (k : Int) : Str := Txt.rjustF z k ((Str.ofString "0").cps.getD 0 0)
namespace Ep_rune_text_plain
noncomputable def P (w : World) (news : Ledger) (n : Int) (t : Tok) : Prop := ∀ (h0 : 32 ≤ n) (h1 : n < 127) (h2 : n ≠ 39) (h3 : n ≠ 92), Fn w 35 [.int n t] news 1 (fun ok => ∀ t, ok (.str (Str.ofString "'" ++ ⟨#[n.toNat]⟩ ++ Str.ofString "'") t) news)
theorem ne : Nonempty (World × Ledger × Int × Tok) := ⟨(wld, default, default, default)⟩
noncomputable def d : World × Ledger × Int × Tok := cex ne fun d => P d.1 d.2.1 d.2.2.1 d.2.2.2
noncomputable def w : World := d.1
noncomputable def news : Ledger := d.2.1
noncomputable def n : Int := d.2.2.1
noncomputable def t : Tok := d.2.2.2
theorem main (h0 : 32 ≤ n) (h1 : n < 127) (h2 : n ≠ 39) (h3 : n ≠ 92) : Fn w 35 [.int n t] news 1 (fun ok => ∀ t, ok (.str (Str.ofString "'" ++ ⟨#[n.toNat]⟩ ++ Str.ofString "'") t) news) := by
  refine' fn_of_body (binds := [(Str.ofString "value", .int n t)]) ?ho ?hcd ?hb ?hl ?hc ?hR ?body ?c1 ?c2 ?c3
  (case ho => k_is)
  (case hcd => k_is)
  (case hb => rfl)
  (case hl => rfl)
  (case hc => decide)
  (case hR => exact (fun _ _ h k t => h _ _ (k t)))
  (case c1 => rfl)
  (case c2 => rfl)
  (case c3 => rfl)
  refine bd_eps ?_
  intro B F X N T hd hu hret
  repeat' ((fail_if_success (with_reducible show wpAny _ _ (exec (Stmt.For _ _ _ _ _) _) _ _ _)); (fail_if_success (with_reducible show wpAny _ _ (pyIter _) _ _ _)); (fail_if_success (with_reducible show wpAny _ _ (exec (Stmt.While _ _ _ _) _) _ _ _)); first | walk1 | (dsimp only; walk1))
  refine hret _ _ _ _ (by assumption) ?_
  refine news_of (by assumption) ?_
  first | exact fun p hp => .tail _ hp | exact fun p hp => hp
end Ep_rune_text_plain
theorem rune_text_plain (w : World) (news : Ledger) (n : Int) (t : Tok) (h0 : 32 ≤ n) (h1 : n < 127) (h2 : n ≠ 39) (h3 : n ≠ 92) : Fn w 35 [.int n t] news 1 (fun ok => ∀ t, ok (.str (Str.ofString "'" ++ ⟨#[n.toNat]⟩ ++ Str.ofString "'") t) news) :=
  (cex_all (ne := Ep_rune_text_plain.ne) (P := fun d : World × Ledger × Int × Tok => Ep_rune_text_plain.P d.1 d.2.1 d.2.2.1 d.2.2.2) (fun h0 h1 h2 h3 => Ep_rune_text_plain.main h0 h1 h2 h3) (w, news, n, t)) h0 h1 h2 h3
namespace Ep_rune_text_hex0
noncomputable def P (w : World) (news : Ledger) (n : Int) (y : Str) (z : Str) (t : Tok) : Prop := ∀ (h0 : 0 ≤ n) (h1 : n < 1114112) (h2 : n < 32) (hh : Hx n y) (hy : y.length ≤ 1000) (hz : Sln y 2 z) (hzl : z.length ≤ 1000) (hrl : (RJ z 8).length ≤ 1000), Fn w 35 [.int n t] news 1 (fun ok => ∀ t, ok (.str (Str.ofString "'\\U" ++ RJ z 8 ++ Str.ofString "'") t) news)
theorem ne : Nonempty (World × Ledger × Int × Str × Str × Tok) := ⟨(wld, default, default, default, default, default)⟩
noncomputable def d : World × Ledger × Int × Str × Str × Tok := cex ne fun d => P d.1 d.2.1 d.2.2.1 d.2.2.2.1 d.2.2.2.2.1 d.2.2.2.2.2
noncomputable def w : World := d.1
noncomputable def news : Ledger := d.2.1
noncomputable def n : Int := d.2.2.1
noncomputable def y : Str := d.2.2.2.1
noncomputable def z : Str := d.2.2.2.2.1
noncomputable def t : Tok := d.2.2.2.2.2
theorem main (h0 : 0 ≤ n) (h1 : n < 1114112) (h2 : n < 32) (hh : Hx n y) (hy : y.length ≤ 1000) (hz : Sln y 2 z) (hzl : z.length ≤ 1000) (hrl : (RJ z 8).length ≤ 1000) : Fn w 35 [.int n t] news 1 (fun ok => ∀ t, ok (.str (Str.ofString "'\\U" ++ RJ z 8 ++ Str.ofString "'") t) news) := by
  refine' fn_of_body (binds := [(Str.ofString "value", .int n t)]) ?ho ?hcd ?hb ?hl ?hc ?hR ?body ?c1 ?c2 ?c3
  (case ho => k_is)
  (case hcd => k_is)
  (case hb => rfl)
  (case hl => rfl)
  (case hc => decide)
  (case hR => exact (fun _ _ h k t => h _ _ (k t)))
  (case c1 => rfl)
  (case c2 => rfl)
  (case c3 => rfl)
  refine bd_eps ?_
  intro B F X N T hd hu hret
  repeat' ((fail_if_success (with_reducible show wpAny _ _ (exec (Stmt.For _ _ _ _ _) _) _ _ _)); (fail_if_success (with_reducible show wpAny _ _ (pyIter _) _ _ _)); (fail_if_success (with_reducible show wpAny _ _ (exec (Stmt.While _ _ _ _) _) _ _ _)); first | walk1 | (dsimp only; walk1))
  refine hret _ _ _ _ (by assumption) ?_
  refine news_of (by assumption) ?_
  first | exact fun p hp => .tail _ hp | exact fun p hp => hp
end Ep_rune_text_hex0
theorem rune_text_hex0 (w : World) (news : Ledger) (n : Int) (y z : Str) (t : Tok) (h0 : 0 ≤ n) (h1 : n < 1114112) (h2 : n < 32) (hh : Hx n y) (hy : y.length ≤ 1000) (hz : Sln y 2 z) (hzl : z.length ≤ 1000) (hrl : (RJ z 8).length ≤ 1000) : Fn w 35 [.int n t] news 1 (fun ok => ∀ t, ok (.str (Str.ofString "'\\U" ++ RJ z 8 ++ Str.ofString "'") t) news) :=
  (cex_all (ne := Ep_rune_text_hex0.ne) (P := fun d : World × Ledger × Int × Str × Str × Tok => Ep_rune_text_hex0.P d.1 d.2.1 d.2.2.1 d.2.2.2.1 d.2.2.2.2.1 d.2.2.2.2.2) (fun h0 h1 h2 hh hy hz hzl hrl => Ep_rune_text_hex0.main h0 h1 h2 hh hy hz hzl hrl) (w, news, n, y, z, t)) h0 h1 h2 hh hy hz hzl hrl
namespace Ep_rune_text_hex1
noncomputable def P (w : World) (news : Ledger) (n : Int) (y : Str) (z : Str) (t : Tok) : Prop := ∀ (h0 : 0 ≤ n) (h1 : n < 1114112) (h2 : 127 ≤ n) (hh : Hx n y) (hy : y.length ≤ 1000) (hz : Sln y 2 z) (hzl : z.length ≤ 1000) (hrl : (RJ z 8).length ≤ 1000), Fn w 35 [.int n t] news 1 (fun ok => ∀ t, ok (.str (Str.ofString "'\\U" ++ RJ z 8 ++ Str.ofString "'") t) news)
theorem ne : Nonempty (World × Ledger × Int × Str × Str × Tok) := ⟨(wld, default, default, default, default, default)⟩
noncomputable def d : World × Ledger × Int × Str × Str × Tok := cex ne fun d => P d.1 d.2.1 d.2.2.1 d.2.2.2.1 d.2.2.2.2.1 d.2.2.2.2.2
noncomputable def w : World := d.1
noncomputable def news : Ledger := d.2.1
noncomputable def n : Int := d.2.2.1
noncomputable def y : Str := d.2.2.2.1
noncomputable def z : Str := d.2.2.2.2.1
noncomputable def t : Tok := d.2.2.2.2.2
theorem main (h0 : 0 ≤ n) (h1 : n < 1114112) (h2 : 127 ≤ n) (hh : Hx n y) (hy : y.length ≤ 1000) (hz : Sln y 2 z) (hzl : z.length ≤ 1000) (hrl : (RJ z 8).length ≤ 1000) : Fn w 35 [.int n t] news 1 (fun ok => ∀ t, ok (.str (Str.ofString "'\\U" ++ RJ z 8 ++ Str.ofString "'") t) news) := by
  refine' fn_of_body (binds := [(Str.ofString "value", .int n t)]) ?ho ?hcd ?hb ?hl ?hc ?hR ?body ?c1 ?c2 ?c3
  (case ho => k_is)
  (case hcd => k_is)
  (case hb => rfl)
  (case hl => rfl)
  (case hc => decide)
  (case hR => exact (fun _ _ h k t => h _ _ (k t)))
  (case c1 => rfl)
  (case c2 => rfl)
  (case c3 => rfl)
  refine bd_eps ?_
  intro B F X N T hd hu hret
  repeat' ((fail_if_success (with_reducible show wpAny _ _ (exec (Stmt.For _ _ _ _ _) _) _ _ _)); (fail_if_success (with_reducible show wpAny _ _ (pyIter _) _ _ _)); (fail_if_success (with_reducible show wpAny _ _ (exec (Stmt.While _ _ _ _) _) _ _ _)); first | walk1 | (dsimp only; walk1))
  refine hret _ _ _ _ (by assumption) ?_
  refine news_of (by assumption) ?_
  first | exact fun p hp => .tail _ hp | exact fun p hp => hp
end Ep_rune_text_hex1
theorem rune_text_hex1 (w : World) (news : Ledger) (n : Int) (y z : Str) (t : Tok) (h0 : 0 ≤ n) (h1 : n < 1114112) (h2 : 127 ≤ n) (hh : Hx n y) (hy : y.length ≤ 1000) (hz : Sln y 2 z) (hzl : z.length ≤ 1000) (hrl : (RJ z 8).length ≤ 1000) : Fn w 35 [.int n t] news 1 (fun ok => ∀ t, ok (.str (Str.ofString "'\\U" ++ RJ z 8 ++ Str.ofString "'") t) news) :=
  (cex_all (ne := Ep_rune_text_hex1.ne) (P := fun d : World × Ledger × Int × Str × Str × Tok => Ep_rune_text_hex1.P d.1 d.2.1 d.2.2.1 d.2.2.2.1 d.2.2.2.2.1 d.2.2.2.2.2) (fun h0 h1 h2 hh hy hz hzl hrl => Ep_rune_text_hex1.main h0 h1 h2 hh hy hz hzl hrl) (w, news, n, y, z, t)) h0 h1 h2 hh hy hz hzl hrl
namespace Ep_rune_text_hex2
noncomputable def P (w : World) (news : Ledger) (n : Int) (y : Str) (z : Str) (t : Tok) : Prop := ∀ (h0 : 0 ≤ n) (h1 : n < 1114112) (h2 : n = 39 ∨ n = 92) (hh : Hx n y) (hy : y.length ≤ 1000) (hz : Sln y 2 z) (hzl : z.length ≤ 1000) (hrl : (RJ z 8).length ≤ 1000), Fn w 35 [.int n t] news 1 (fun ok => ∀ t, ok (.str (Str.ofString "'\\U" ++ RJ z 8 ++ Str.ofString "'") t) news)
theorem ne : Nonempty (World × Ledger × Int × Str × Str × Tok) := ⟨(wld, default, default, default, default, default)⟩
noncomputable def d : World × Ledger × Int × Str × Str × Tok := cex ne fun d => P d.1 d.2.1 d.2.2.1 d.2.2.2.1 d.2.2.2.2.1 d.2.2.2.2.2
noncomputable def w : World := d.1
noncomputable def news : Ledger := d.2.1
noncomputable def n : Int := d.2.2.1
noncomputable def y : Str := d.2.2.2.1
noncomputable def z : Str := d.2.2.2.2.1
noncomputable def t : Tok := d.2.2.2.2.2
theorem main (h0 : 0 ≤ n) (h1 : n < 1114112) (h2 : n = 39 ∨ n = 92) (hh : Hx n y) (hy : y.length ≤ 1000) (hz : Sln y 2 z) (hzl : z.length ≤ 1000) (hrl : (RJ z 8).length ≤ 1000) : Fn w 35 [.int n t] news 1 (fun ok => ∀ t, ok (.str (Str.ofString "'\\U" ++ RJ z 8 ++ Str.ofString "'") t) news) := by
  refine' fn_of_body (binds := [(Str.ofString "value", .int n t)]) ?ho ?hcd ?hb ?hl ?hc ?hR ?body ?c1 ?c2 ?c3
  (case ho => k_is)
  (case hcd => k_is)
  (case hb => rfl)
  (case hl => rfl)
  (case hc => decide)
  (case hR => exact (fun _ _ h k t => h _ _ (k t)))
  (case c1 => rfl)
  (case c2 => rfl)
  (case c3 => rfl)
  refine bd_eps ?_
  intro B F X N T hd hu hret
  repeat' ((fail_if_success (with_reducible show wpAny _ _ (exec (Stmt.For _ _ _ _ _) _) _ _ _)); (fail_if_success (with_reducible show wpAny _ _ (pyIter _) _ _ _)); (fail_if_success (with_reducible show wpAny _ _ (exec (Stmt.While _ _ _ _) _) _ _ _)); first | walk1 | (dsimp only; walk1))
  refine hret _ _ _ _ (by assumption) ?_
  refine news_of (by assumption) ?_
  first | exact fun p hp => .tail _ hp | exact fun p hp => hp
end Ep_rune_text_hex2
theorem rune_text_hex2 (w : World) (news : Ledger) (n : Int) (y z : Str) (t : Tok) (h0 : 0 ≤ n) (h1 : n < 1114112) (h2 : n = 39 ∨ n = 92) (hh : Hx n y) (hy : y.length ≤ 1000) (hz : Sln y 2 z) (hzl : z.length ≤ 1000) (hrl : (RJ z 8).length ≤ 1000) : Fn w 35 [.int n t] news 1 (fun ok => ∀ t, ok (.str (Str.ofString "'\\U" ++ RJ z 8 ++ Str.ofString "'") t) news) :=
  (cex_all (ne := Ep_rune_text_hex2.ne) (P := fun d : World × Ledger × Int × Str × Str × Tok => Ep_rune_text_hex2.P d.1 d.2.1 d.2.2.1 d.2.2.2.1 d.2.2.2.2.1 d.2.2.2.2.2) (fun h0 h1 h2 hh hy hz hzl hrl => Ep_rune_text_hex2.main h0 h1 h2 hh hy hz hzl hrl) (w, news, n, y, z, t)) h0 h1 h2 hh hy hz hzl hrl
section
local macro_rules | `(tactic| walk_at "pad") => `(tactic| skip)
section
variable {prog : Program} {w : World} {A : Around} {E : Value → Shared → Prop} {s : Shared} {env : Env} {h₀ : Heap} {x : Str} {body : List Stmt} {Q : Flow → Shared → Prop} {m₀ : Map} {news : Ledger} {σ : Type}
/-- `for x in <bytes>`. -/
theorem it_bytes {b : Array UInt8} {tb : Tok} (P : Nat → σ → Prop) (M : Nat → σ → Map → Map) (Nn : Nat → σ → Ledger → Ledger) (c₀ : σ) (hh : A.handled = none)
    (F : Fr h₀ env.locals s.heap m₀) (N : News h₀ env.locals s.heap news) (h0 : P 0 c₀) (hM : m₀ = M 0 c₀ m₀) (hN : news = Nn 0 c₀ news)
    (turn : ∀ (i : Nat) (c : UInt8) t d h tk own, b[i]? = some c → OwnOff own (news.map (·.1)) → P i d → Fr h₀ env.locals h (fun y => if y = x then some (.int (c.toNat : Int) t) else M i d m₀ y) → News h₀ env.locals h (Nn i d news ++ own) →
      wpAny (model prog w) A (execs body env) (ItPost h₀ env.locals P M Nn m₀ news own (i + 1) { s with heap := h, toks := tk } Q) E { s with heap := h, toks := tk })
    (done : ∀ d h tk, P b.size d → Fr h₀ env.locals h (M b.size d m₀) → News h₀ env.locals h (Nn b.size d news) → Q .next { s with heap := h, toks := tk }) :
    wpAny (model prog w) A (pyIter (.bytes b tb)) (fun it s₂ => LoopAtV prog w A h₀ env x body Q E it s₂) E s := by
  refine KBw.pyIter_bytes ?_
  refine it_gen P M Nn c₀ (KBw.walks hh s.heap.objs.size b tb) ?_ ?_ ?_ ?_ ?_ (F.push _) (fun p hp => ⟨Heap.get?_push_of_some _ (N p hp).1, (N p hp).2⟩) h0 hM hN ?_ done
  · intro hm
    exact absurd F.ns.lt ((List.mem_singleton.mp hm) ▸ Nat.lt_irrefl _)
  · intro b hb
    rw [List.mem_singleton.mp hb]
    exact next_is_new F
  · intro p hp hI
    exact absurd (Heap.lt_size (N p hp).1) ((List.mem_singleton.mp hI) ▸ Nat.lt_irrefl _)
  · intro p hp hI
    exact absurd (Heap.lt_size (N p hp).1) ((List.mem_singleton.mp hI) ▸ Nat.lt_irrefl _)
  · exact ⟨_, Heap.get?_push_size _ rfl, rfl, rfl⟩
  · rintro i v d h tk own hi ⟨c, t, hc, rfl⟩ hoff hP F₁ N₁
    exact turn i c t d h tk own hc hoff hP F₁ N₁
end
/-- What a text of the octet is. -/
noncomputable def OctT (c : Nat) (y : Str) : Prop :=
  (32 ≤ c ∧ c < 127 ∧ c ≠ 34 ∧ c ≠ 92 ∧ y = ⟨#[((c : Int)).toNat]⟩) ∨ ((c < 32 ∨ 127 ≤ c ∨ c = 34 ∨ c = 92) ∧ ∃ h z, Hx c h ∧ h.length ≤ 1000 ∧ Sln h 2 z ∧ z.length ≤ 1000 ∧ (RJ z 2).length ≤ 1000 ∧ y = Str.ofString "\\x" ++ RJ z 2)
local macro_rules | `(tactic| walk_at "call builtin:list.append") => `(tactic| (k_dflt (first
  | refine append_in (own := []) (by assumption) (by assumption) (fun _ h => by cases h) (by assumption) ?_ (by rw [sizeLine_eq]; omega)
  | refine append_in (own := [_]) (by assumption) (by assumption) (fun p h => by rw [List.mem_singleton.mp h]; exact Nat.ne_of_gt (And.left (by assumption))) (by assumption) ?_ (by rw [sizeLine_eq]; omega))); intro h1' F' N')
theorem take_step {vs : List Value} {ts : List Str} {i : Nat} {y : Str} {t : Tok} (hP : vs.map strOf = (ts.take i).map some) (hy : ts[i]? = some y) : (vs ++ [Value.str y t]).map strOf = (ts.take (i + 1)).map some := by
  rw [List.map_append, hP, List.take_add_one, hy, List.map_append]; rfl
noncomputable def qP (ts : List Str) (i : Nat) (c : List Value × Option Value) : Prop := c.1.map strOf = (ts.take i).map some
noncomputable def qM (_ : Nat) (c : List Value × Option Value) (m₀ : Map) : Map := fun y => if y = Str.ofString "octet" then c.2 else m₀ y
noncomputable def qN (D : Addr) (news : Ledger) (i : Nat) (c : List Value × Option Value) (_ : Ledger) : Ledger := (D, listOf c.1.toArray i) :: news
theorem q_end {h₀ h' : Heap} {L D : Addr} {pre own news nn : Ledger} {ts : List Str} {i : Nat} {vs : List Value} {uo : Option Value} {v : Value} {y : Str} {t : Tok} {m₀ : Map} {s : Shared} {tk : Nat} {Q : Flow → Shared → Prop}
    (F : Fr h₀ L h' (fun z => if z = Str.ofString "octet" then some v else if z = Str.ofString "octet" then uo else m₀ z)) (N : News h₀ L h' (pre ++ (D, listOf (vs ++ [Value.str y t]).toArray (i + 1)) :: (news ++ own))) (hnn : nn = (D, listOf #[] 0) :: news)
    (hP : vs.map strOf = (ts.take i).map some) (hy : ts[i]? = some y) : ItPost h₀ L (qP ts) qM (qN D news) m₀ nn own (i + 1) s Q .next { s with heap := h', toks := tk } := by
  refine it_end (vs ++ [.str y t], some v) F N (fun p hp => List.mem_append.mpr (.inr ?_)) (fun p hp => List.mem_append.mpr (.inr (.tail _ (List.mem_append.mpr (.inr hp))))) (by rw [hnn]; rfl) ?_ (show qP ts (i + 1) (vs ++ [Value.str y t], some v) from take_step hP hy)
  · rcases List.mem_cons.mp hp with rfl | hp
    · exact .head _
    · exact .tail _ (List.mem_append.mpr (.inl hp))
  · funext z
    show _ = if _ then _ else _
    by_cases h1 : z = Str.ofString "octet"
    · rw [if_pos h1, if_pos h1]
    · rw [if_neg h1, if_neg h1, if_neg h1]
theorem q_end0 {h₀ h' : Heap} {L D : Addr} {own news nn : Ledger} {ts : List Str} {i : Nat} {vs : List Value} {uo : Option Value} {v : Value} {y : Str} {t : Tok} {m₀ : Map} {s : Shared} {tk : Nat} {Q : Flow → Shared → Prop}
    (F : Fr h₀ L h' (fun z => if z = Str.ofString "octet" then some v else if z = Str.ofString "octet" then uo else m₀ z)) (N : News h₀ L h' ((D, listOf (vs ++ [Value.str y t]).toArray (i + 1)) :: (news ++ own))) (hnn : nn = (D, listOf #[] 0) :: news)
    (hP : vs.map strOf = (ts.take i).map some) (hy : ts[i]? = some y) : ItPost h₀ L (qP ts) qM (qN D news) m₀ nn own (i + 1) s Q .next { s with heap := h', toks := tk } := q_end (pre := []) F N hnn hP hy
local macro_rules | `(tactic| walk_at "call builtin:str.join") => `(tactic| (refine join_listW (News.isList (by assumption) (by exact .head _)) (by assumption) (by decide) (by omega) ?_; intro _ _))
namespace Ep_quoted_text_ok
noncomputable def P (w : World) (news : Ledger) (b : Array UInt8) (ts : List Str) (t : Tok) : Prop := ∀ (h1 : b.size ≤ 10) (hn : ts.length = b.size) (ht : ∀ (i : Nat) c y, b[i]? = some c → ts[i]? = some y → OctT c.toNat y) (hw : (ts.map (·.length)).sum ≤ 1000) (hjl : (Txt.join (Str.ofString "") ts).length ≤ 1000), Fn w 42 [.bytes b t] news 1 (fun ok => ∀ t, ok (.str (Str.ofString "\"" ++ Txt.join (Str.ofString "") ts ++ Str.ofString "\"") t) news)
theorem ne : Nonempty (World × Ledger × (Array UInt8) × (List Str) × Tok) := ⟨(wld, default, default, default, default)⟩
noncomputable def d : World × Ledger × (Array UInt8) × (List Str) × Tok := cex ne fun d => P d.1 d.2.1 d.2.2.1 d.2.2.2.1 d.2.2.2.2
noncomputable def w : World := d.1
noncomputable def news : Ledger := d.2.1
noncomputable def b : Array UInt8 := d.2.2.1
noncomputable def ts : List Str := d.2.2.2.1
noncomputable def t : Tok := d.2.2.2.2
theorem main (h1 : b.size ≤ 10) (hn : ts.length = b.size) (ht : ∀ (i : Nat) c y, b[i]? = some c → ts[i]? = some y → OctT c.toNat y) (hw : (ts.map (·.length)).sum ≤ 1000) (hjl : (Txt.join (Str.ofString "") ts).length ≤ 1000) : Fn w 42 [.bytes b t] news 1 (fun ok => ∀ t, ok (.str (Str.ofString "\"" ++ Txt.join (Str.ofString "") ts ++ Str.ofString "\"") t) news) := by
  refine' fn_of_body (binds := [(Str.ofString "octets", .bytes b t)]) ?ho ?hcd ?hb ?hl ?hc ?hR ?body ?c1 ?c2 ?c3
  (case ho => k_is)
  (case hcd => k_is)
  (case hb => rfl)
  (case hl => rfl)
  (case hc => decide)
  (case hR => exact (fun _ _ h k t => h _ _ (k t)))
  (case c1 => rfl)
  (case c2 => rfl)
  (case c3 => rfl)
  refine bd_eps ?_
  intro B F X N T hd hu hret
  repeat' ((fail_if_success (with_reducible show wpAny _ _ (exec (Stmt.For _ _ _ _ _) _) _ _ _)); (fail_if_success (with_reducible show wpAny _ _ (pyIter _) _ _ _)); (fail_if_success (with_reducible show wpAny _ _ (exec (Stmt.While _ _ _ _) _) _ _ _)); first | walk1 | (dsimp only; walk1))
  rename_i D1 hA lA hB FB NB
  refine For_invVF (by assumption) rfl rfl ?_ (hE := PassesOwn.never)
  repeat' ((fail_if_success (with_reducible show wpAny _ _ (exec (Stmt.For _ _ _ _ _) _) _ _ _)); (fail_if_success (with_reducible show wpAny _ _ (pyIter _) _ _ _)); (fail_if_success (with_reducible show wpAny _ _ (exec (Stmt.While _ _ _ _) _) _ _ _)); first | walk1 | (dsimp only; walk1))
  refine' it_bytes (σ := List Value × Option Value) (qP ts) qM (qN D1 news) ([], none) rfl (by assumption) (by assumption) rfl ?hM rfl ?turn ?done
  case hM =>
    funext y
    by_cases h1 : y = Str.ofString "octet"
    · subst h1; rfl
    · simp only [qM, h1, if_false]
  case turn =>
    rintro i c tc ⟨vs, uo⟩ h tk own hc hoff hP F₁ N₁
    change Fr _ _ h _ at F₁
    change News _ _ h _ at N₁
    dsimp only [qM, qN] at F₁ N₁
    change vs.map strOf = _ at hP
    rw [List.cons_append] at N₁
    have hib : i < b.size := (Array.getElem?_eq_some_iff.mp hc).1
    obtain ⟨y, hy⟩ : ∃ y, ts[i]? = some y := ⟨_, List.getElem?_eq_getElem (by omega)⟩
    have hap : ∀ p ∈ news ++ own, p.1 ≠ D1 := by
      intro p hp
      rcases List.mem_append.mp hp with hp | hp
      · exact Nat.ne_of_lt (lA p hp)
      · exact hoff p hp D1 (.head _)
    have hvl : vs.length ≤ 10 := by
      have := congrArg List.length hP
      rw [List.length_map, List.length_map, List.length_take] at this
      omega
    rcases ht i c y hc hy with ⟨c1, c2, c3, c4, rfl⟩ | ⟨hcs, hh, z, z1, z2, z3, z4, z5, rfl⟩
    · repeat' ((fail_if_success (with_reducible show wpAny _ _ (exec (Stmt.For _ _ _ _ _) _) _ _ _)); (fail_if_success (with_reducible show wpAny _ _ (pyIter _) _ _ _)); (fail_if_success (with_reducible show wpAny _ _ (exec (Stmt.While _ _ _ _) _) _ _ _)); first | walk1 | (dsimp only; walk1))
      exact q_end (pre := [_]) (by assumption) (by assumption) rfl hP hy
    · rcases hcs with hcs | hcs | hcs | hcs
      · repeat' ((fail_if_success (with_reducible show wpAny _ _ (exec (Stmt.For _ _ _ _ _) _) _ _ _)); (fail_if_success (with_reducible show wpAny _ _ (pyIter _) _ _ _)); (fail_if_success (with_reducible show wpAny _ _ (exec (Stmt.While _ _ _ _) _) _ _ _)); first | walk1 | (dsimp only; walk1))
        exact q_end0 (by assumption) (by assumption) rfl hP hy
      · repeat' ((fail_if_success (with_reducible show wpAny _ _ (exec (Stmt.For _ _ _ _ _) _) _ _ _)); (fail_if_success (with_reducible show wpAny _ _ (pyIter _) _ _ _)); (fail_if_success (with_reducible show wpAny _ _ (exec (Stmt.While _ _ _ _) _) _ _ _)); first | walk1 | (dsimp only; walk1))
        exact q_end0 (by assumption) (by assumption) rfl hP hy
      · repeat' ((fail_if_success (with_reducible show wpAny _ _ (exec (Stmt.For _ _ _ _ _) _) _ _ _)); (fail_if_success (with_reducible show wpAny _ _ (pyIter _) _ _ _)); (fail_if_success (with_reducible show wpAny _ _ (exec (Stmt.While _ _ _ _) _) _ _ _)); first | walk1 | (dsimp only; walk1))
        exact q_end (pre := [_]) (by assumption) (by assumption) rfl hP hy
      · repeat' ((fail_if_success (with_reducible show wpAny _ _ (exec (Stmt.For _ _ _ _ _) _) _ _ _)); (fail_if_success (with_reducible show wpAny _ _ (pyIter _) _ _ _)); (fail_if_success (with_reducible show wpAny _ _ (exec (Stmt.While _ _ _ _) _) _ _ _)); first | walk1 | (dsimp only; walk1))
        exact q_end (pre := [_]) (by assumption) (by assumption) rfl hP hy
  case done =>
    rintro ⟨vs, uo⟩ h tk hP F₁ N₁
    change Fr _ _ h _ at F₁
    change News _ _ h _ at N₁
    dsimp only [qM, qN] at F₁ N₁
    change vs.map strOf = _ at hP
    rw [List.take_of_length_le (by omega)] at hP
    have hS := strs_are hP
    repeat' ((fail_if_success (with_reducible show wpAny _ _ (exec (Stmt.For _ _ _ _ _) _) _ _ _)); (fail_if_success (with_reducible show wpAny _ _ (pyIter _) _ _ _)); (fail_if_success (with_reducible show wpAny _ _ (exec (Stmt.While _ _ _ _) _) _ _ _)); first | walk1 | (dsimp only; walk1))
    refine hret _ _ _ _ (by assumption) ?_
    refine news_of (by assumption) ?_
    exact fun p hp => .tail _ hp
end Ep_quoted_text_ok
theorem quoted_text_ok (w : World) (news : Ledger) (b : Array UInt8) (ts : List Str) (t : Tok) (h1 : b.size ≤ 10) (hn : ts.length = b.size) (ht : ∀ (i : Nat) c y, b[i]? = some c → ts[i]? = some y → OctT c.toNat y) (hw : (ts.map (·.length)).sum ≤ 1000) (hjl : (Txt.join (Str.ofString "") ts).length ≤ 1000) : Fn w 42 [.bytes b t] news 1 (fun ok => ∀ t, ok (.str (Str.ofString "\"" ++ Txt.join (Str.ofString "") ts ++ Str.ofString "\"") t) news) :=
  (cex_all (ne := Ep_quoted_text_ok.ne) (P := fun d : World × Ledger × (Array UInt8) × (List Str) × Tok => Ep_quoted_text_ok.P d.1 d.2.1 d.2.2.1 d.2.2.2.1 d.2.2.2.2) (fun h1 hn ht hw hjl => Ep_quoted_text_ok.main h1 hn ht hw hjl) (w, news, b, ts, t)) h1 hn ht hw hjl
end
noncomputable abbrev HEXD : Str := Str.ofString "0123456789abcdef"
namespace Ep_law_octet_text_plain
noncomputable def P (w : World) (news : Ledger) (c : Int) (t : Tok) : Prop := ∀ (h0 : 32 ≤ c) (h1 : c < 127) (h2 : c ≠ 34) (h3 : c ≠ 92), Fn w 314 [.int c t] news 1 (fun ok => ∀ t, ok (.str ⟨#[c.toNat]⟩ t) news)
theorem ne : Nonempty (World × Ledger × Int × Tok) := ⟨(wld, default, default, default)⟩
noncomputable def d : World × Ledger × Int × Tok := cex ne fun d => P d.1 d.2.1 d.2.2.1 d.2.2.2
noncomputable def w : World := d.1
noncomputable def news : Ledger := d.2.1
noncomputable def c : Int := d.2.2.1
noncomputable def t : Tok := d.2.2.2
theorem main (h0 : 32 ≤ c) (h1 : c < 127) (h2 : c ≠ 34) (h3 : c ≠ 92) : Fn w 314 [.int c t] news 1 (fun ok => ∀ t, ok (.str ⟨#[c.toNat]⟩ t) news) := by
  refine' fn_of_body (binds := [(Str.ofString "octet", .int c t)]) ?ho ?hcd ?hb ?hl ?hc ?hR ?body ?c1 ?c2 ?c3
  (case ho => k_is)
  (case hcd => k_is)
  (case hb => rfl)
  (case hl => rfl)
  (case hc => decide)
  (case hR => exact (fun _ _ h k t => h _ _ (k t)))
  (case c1 => rfl)
  (case c2 => rfl)
  (case c3 => rfl)
  refine bd_eps ?_
  intro B F X N T hd hu hret
  repeat' ((fail_if_success (with_reducible show wpAny _ _ (exec (Stmt.For _ _ _ _ _) _) _ _ _)); (fail_if_success (with_reducible show wpAny _ _ (pyIter _) _ _ _)); (fail_if_success (with_reducible show wpAny _ _ (exec (Stmt.While _ _ _ _) _) _ _ _)); first | walk1 | (dsimp only; walk1))
  refine hret _ _ _ _ (by assumption) ?_
  refine news_of (by assumption) ?_
  first | exact fun p hp => .tail _ hp | exact fun p hp => hp
end Ep_law_octet_text_plain
theorem law_octet_text_plain (w : World) (news : Ledger) (c : Int) (t : Tok) (h0 : 32 ≤ c) (h1 : c < 127) (h2 : c ≠ 34) (h3 : c ≠ 92) : Fn w 314 [.int c t] news 1 (fun ok => ∀ t, ok (.str ⟨#[c.toNat]⟩ t) news) :=
  (cex_all (ne := Ep_law_octet_text_plain.ne) (P := fun d : World × Ledger × Int × Tok => Ep_law_octet_text_plain.P d.1 d.2.1 d.2.2.1 d.2.2.2) (fun h0 h1 h2 h3 => Ep_law_octet_text_plain.main h0 h1 h2 h3) (w, news, c, t)) h0 h1 h2 h3
namespace Ep_law_octet_text_hex0
noncomputable def P (w : World) (news : Ledger) (c : Int) (t : Tok) : Prop := ∀ (h0 : 0 ≤ c) (h1 : c < 256) (h2 : c < 32), Fn w 314 [.int c t] news 1 (fun ok => ∀ t, ok (.str (Str.ofString "\\x" ++ Txt.item HEXD (c.fdiv 16) ++ Txt.item HEXD (c.fmod 16)) t) news)
theorem ne : Nonempty (World × Ledger × Int × Tok) := ⟨(wld, default, default, default)⟩
noncomputable def d : World × Ledger × Int × Tok := cex ne fun d => P d.1 d.2.1 d.2.2.1 d.2.2.2
noncomputable def w : World := d.1
noncomputable def news : Ledger := d.2.1
noncomputable def c : Int := d.2.2.1
noncomputable def t : Tok := d.2.2.2
theorem main (h0 : 0 ≤ c) (h1 : c < 256) (h2 : c < 32) : Fn w 314 [.int c t] news 1 (fun ok => ∀ t, ok (.str (Str.ofString "\\x" ++ Txt.item HEXD (c.fdiv 16) ++ Txt.item HEXD (c.fmod 16)) t) news) := by
  refine' fn_of_body (binds := [(Str.ofString "octet", .int c t)]) ?ho ?hcd ?hb ?hl ?hc ?hR ?body ?c1 ?c2 ?c3
  (case ho => k_is)
  (case hcd => k_is)
  (case hb => rfl)
  (case hl => rfl)
  (case hc => decide)
  (case hR => exact (fun _ _ h k t => h _ _ (k t)))
  (case c1 => rfl)
  (case c2 => rfl)
  (case c3 => rfl)
  refine bd_eps ?_
  intro B F X N T hd hu hret
  repeat' ((fail_if_success (with_reducible show wpAny _ _ (exec (Stmt.For _ _ _ _ _) _) _ _ _)); (fail_if_success (with_reducible show wpAny _ _ (pyIter _) _ _ _)); (fail_if_success (with_reducible show wpAny _ _ (exec (Stmt.While _ _ _ _) _) _ _ _)); first | walk1 | (dsimp only; walk1))
  refine hret _ _ _ _ (by assumption) ?_
  refine news_of (by assumption) ?_
  first | exact fun p hp => .tail _ hp | exact fun p hp => hp
end Ep_law_octet_text_hex0
theorem law_octet_text_hex0 (w : World) (news : Ledger) (c : Int) (t : Tok) (h0 : 0 ≤ c) (h1 : c < 256) (h2 : c < 32) : Fn w 314 [.int c t] news 1 (fun ok => ∀ t, ok (.str (Str.ofString "\\x" ++ Txt.item HEXD (c.fdiv 16) ++ Txt.item HEXD (c.fmod 16)) t) news) :=
  (cex_all (ne := Ep_law_octet_text_hex0.ne) (P := fun d : World × Ledger × Int × Tok => Ep_law_octet_text_hex0.P d.1 d.2.1 d.2.2.1 d.2.2.2) (fun h0 h1 h2 => Ep_law_octet_text_hex0.main h0 h1 h2) (w, news, c, t)) h0 h1 h2
namespace Ep_law_octet_text_hex1
noncomputable def P (w : World) (news : Ledger) (c : Int) (t : Tok) : Prop := ∀ (h0 : 0 ≤ c) (h1 : c < 256) (h2 : 127 ≤ c), Fn w 314 [.int c t] news 1 (fun ok => ∀ t, ok (.str (Str.ofString "\\x" ++ Txt.item HEXD (c.fdiv 16) ++ Txt.item HEXD (c.fmod 16)) t) news)
theorem ne : Nonempty (World × Ledger × Int × Tok) := ⟨(wld, default, default, default)⟩
noncomputable def d : World × Ledger × Int × Tok := cex ne fun d => P d.1 d.2.1 d.2.2.1 d.2.2.2
noncomputable def w : World := d.1
noncomputable def news : Ledger := d.2.1
noncomputable def c : Int := d.2.2.1
noncomputable def t : Tok := d.2.2.2
theorem main (h0 : 0 ≤ c) (h1 : c < 256) (h2 : 127 ≤ c) : Fn w 314 [.int c t] news 1 (fun ok => ∀ t, ok (.str (Str.ofString "\\x" ++ Txt.item HEXD (c.fdiv 16) ++ Txt.item HEXD (c.fmod 16)) t) news) := by
  refine' fn_of_body (binds := [(Str.ofString "octet", .int c t)]) ?ho ?hcd ?hb ?hl ?hc ?hR ?body ?c1 ?c2 ?c3
  (case ho => k_is)
  (case hcd => k_is)
  (case hb => rfl)
  (case hl => rfl)
  (case hc => decide)
  (case hR => exact (fun _ _ h k t => h _ _ (k t)))
  (case c1 => rfl)
  (case c2 => rfl)
  (case c3 => rfl)
  refine bd_eps ?_
  intro B F X N T hd hu hret
  repeat' ((fail_if_success (with_reducible show wpAny _ _ (exec (Stmt.For _ _ _ _ _) _) _ _ _)); (fail_if_success (with_reducible show wpAny _ _ (pyIter _) _ _ _)); (fail_if_success (with_reducible show wpAny _ _ (exec (Stmt.While _ _ _ _) _) _ _ _)); first | walk1 | (dsimp only; walk1))
  refine hret _ _ _ _ (by assumption) ?_
  refine news_of (by assumption) ?_
  first | exact fun p hp => .tail _ hp | exact fun p hp => hp
end Ep_law_octet_text_hex1
theorem law_octet_text_hex1 (w : World) (news : Ledger) (c : Int) (t : Tok) (h0 : 0 ≤ c) (h1 : c < 256) (h2 : 127 ≤ c) : Fn w 314 [.int c t] news 1 (fun ok => ∀ t, ok (.str (Str.ofString "\\x" ++ Txt.item HEXD (c.fdiv 16) ++ Txt.item HEXD (c.fmod 16)) t) news) :=
  (cex_all (ne := Ep_law_octet_text_hex1.ne) (P := fun d : World × Ledger × Int × Tok => Ep_law_octet_text_hex1.P d.1 d.2.1 d.2.2.1 d.2.2.2) (fun h0 h1 h2 => Ep_law_octet_text_hex1.main h0 h1 h2) (w, news, c, t)) h0 h1 h2
namespace Ep_law_octet_text_hex2
noncomputable def P (w : World) (news : Ledger) (c : Int) (t : Tok) : Prop := ∀ (h0 : 0 ≤ c) (h1 : c < 256) (h2 : c = 34 ∨ c = 92), Fn w 314 [.int c t] news 1 (fun ok => ∀ t, ok (.str (Str.ofString "\\x" ++ Txt.item HEXD (c.fdiv 16) ++ Txt.item HEXD (c.fmod 16)) t) news)
theorem ne : Nonempty (World × Ledger × Int × Tok) := ⟨(wld, default, default, default)⟩
noncomputable def d : World × Ledger × Int × Tok := cex ne fun d => P d.1 d.2.1 d.2.2.1 d.2.2.2
noncomputable def w : World := d.1
noncomputable def news : Ledger := d.2.1
noncomputable def c : Int := d.2.2.1
noncomputable def t : Tok := d.2.2.2
theorem main (h0 : 0 ≤ c) (h1 : c < 256) (h2 : c = 34 ∨ c = 92) : Fn w 314 [.int c t] news 1 (fun ok => ∀ t, ok (.str (Str.ofString "\\x" ++ Txt.item HEXD (c.fdiv 16) ++ Txt.item HEXD (c.fmod 16)) t) news) := by
  refine' fn_of_body (binds := [(Str.ofString "octet", .int c t)]) ?ho ?hcd ?hb ?hl ?hc ?hR ?body ?c1 ?c2 ?c3
  (case ho => k_is)
  (case hcd => k_is)
  (case hb => rfl)
  (case hl => rfl)
  (case hc => decide)
  (case hR => exact (fun _ _ h k t => h _ _ (k t)))
  (case c1 => rfl)
  (case c2 => rfl)
  (case c3 => rfl)
  refine bd_eps ?_
  intro B F X N T hd hu hret
  repeat' ((fail_if_success (with_reducible show wpAny _ _ (exec (Stmt.For _ _ _ _ _) _) _ _ _)); (fail_if_success (with_reducible show wpAny _ _ (pyIter _) _ _ _)); (fail_if_success (with_reducible show wpAny _ _ (exec (Stmt.While _ _ _ _) _) _ _ _)); first | walk1 | (dsimp only; walk1))
  refine hret _ _ _ _ (by assumption) ?_
  refine news_of (by assumption) ?_
  first | exact fun p hp => .tail _ hp | exact fun p hp => hp
end Ep_law_octet_text_hex2
theorem law_octet_text_hex2 (w : World) (news : Ledger) (c : Int) (t : Tok) (h0 : 0 ≤ c) (h1 : c < 256) (h2 : c = 34 ∨ c = 92) : Fn w 314 [.int c t] news 1 (fun ok => ∀ t, ok (.str (Str.ofString "\\x" ++ Txt.item HEXD (c.fdiv 16) ++ Txt.item HEXD (c.fmod 16)) t) news) :=
  (cex_all (ne := Ep_law_octet_text_hex2.ne) (P := fun d : World × Ledger × Int × Tok => Ep_law_octet_text_hex2.P d.1 d.2.1 d.2.2.1 d.2.2.2) (fun h0 h1 h2 => Ep_law_octet_text_hex2.main h0 h1 h2) (w, news, c, t)) h0 h1 h2
section
local macro_rules | `(tactic| walk_at "subscriptTail Name Constant ref int") => `(tactic| k_dflt (refine item_l (vs := [.int _ _, .int _ _]) (by assumption) (by exact .head _) (by decide) (by decide) rfl ?_))
local macro_rules | `(tactic| walk_at "setItem ref int int") => `(tactic| (k_dflt (refine ki_set (by assumption) (by assumption) (by decide) (by decide) rfl (.head (by assumption)) ?_); intro h1' F' N'))
noncomputable abbrev SrcO (a b : Int) (ta tb : Tok) (o : Nat) : Obj := listOf #[.int a ta, .int b tb] o
namespace Ep_law_take_a
noncomputable def P (w : World) (news : Ledger) (S : Addr) (a : Int) (b : Int) (top : Int) (t : Tok) (u : Tok) (t1 : Tok) (o : Nat) : Prop := ∀ (hS : ∀ p ∈ news, p.1 ≠ S) (h0 : 0 < a) (h1 : 0 < top) (h2 : top ≤ 1000000), Fn w 300 [.ref S, .int top t1] ((S, SrcO a b t u o) :: news) 1 (fun ok => ∀ t' t1 u o', ok (.int (a.fmod top) t') ((S, SrcO (a.fdiv top) b t1 u o') :: news))
theorem ne : Nonempty (World × Ledger × Addr × Int × Int × Int × Tok × Tok × Tok × Nat) := ⟨(wld, default, default, default, default, default, default, default, default, default)⟩
noncomputable def d : World × Ledger × Addr × Int × Int × Int × Tok × Tok × Tok × Nat := cex ne fun d => P d.1 d.2.1 d.2.2.1 d.2.2.2.1 d.2.2.2.2.1 d.2.2.2.2.2.1 d.2.2.2.2.2.2.1 d.2.2.2.2.2.2.2.1 d.2.2.2.2.2.2.2.2.1 d.2.2.2.2.2.2.2.2.2
noncomputable def w : World := d.1
noncomputable def news : Ledger := d.2.1
noncomputable def S : Addr := d.2.2.1
noncomputable def a : Int := d.2.2.2.1
noncomputable def b : Int := d.2.2.2.2.1
noncomputable def top : Int := d.2.2.2.2.2.1
noncomputable def t : Tok := d.2.2.2.2.2.2.1
noncomputable def u : Tok := d.2.2.2.2.2.2.2.1
noncomputable def t1 : Tok := d.2.2.2.2.2.2.2.2.1
noncomputable def o : Nat := d.2.2.2.2.2.2.2.2.2
theorem main (hS : ∀ p ∈ news, p.1 ≠ S) (h0 : 0 < a) (h1 : 0 < top) (h2 : top ≤ 1000000) : Fn w 300 [.ref S, .int top t1] ((S, SrcO a b t u o) :: news) 1 (fun ok => ∀ t' t1 u o', ok (.int (a.fmod top) t') ((S, SrcO (a.fdiv top) b t1 u o') :: news)) := by
  refine' fn_of_body (binds := [(Str.ofString "source", .ref S), (Str.ofString "top", .int top t1)]) ?ho ?hcd ?hb ?hl ?hc ?hR ?body ?c1 ?c2 ?c3
  (case ho => k_is)
  (case hcd => k_is)
  (case hb => rfl)
  (case hl => rfl)
  (case hc => decide)
  (case hR => exact (fun _ _ h k t t1 u o => h _ _ (k t t1 u o)))
  (case c1 => rfl)
  (case c2 => rfl)
  (case c3 => rfl)
  refine bd_eps ?_
  intro B F X N T hd hu hret
  repeat' ((fail_if_success (with_reducible show wpAny _ _ (exec (Stmt.For _ _ _ _ _) _) _ _ _)); (fail_if_success (with_reducible show wpAny _ _ (pyIter _) _ _ _)); (fail_if_success (with_reducible show wpAny _ _ (exec (Stmt.While _ _ _ _) _) _ _ _)); first | walk1 | (dsimp only; walk1))
  refine' hret _ _ _ _ _ _ _ ?F ?N
  case F => assumption
  case N => assumption
end Ep_law_take_a
theorem law_take_a (w : World) (news : Ledger) (S : Addr) (a b top : Int) (t u t1 : Tok) (o : Nat) (hS : ∀ p ∈ news, p.1 ≠ S) (h0 : 0 < a) (h1 : 0 < top) (h2 : top ≤ 1000000) : Fn w 300 [.ref S, .int top t1] ((S, SrcO a b t u o) :: news) 1 (fun ok => ∀ t' t1 u o', ok (.int (a.fmod top) t') ((S, SrcO (a.fdiv top) b t1 u o') :: news)) :=
  (cex_all (ne := Ep_law_take_a.ne) (P := fun d : World × Ledger × Addr × Int × Int × Int × Tok × Tok × Tok × Nat => Ep_law_take_a.P d.1 d.2.1 d.2.2.1 d.2.2.2.1 d.2.2.2.2.1 d.2.2.2.2.2.1 d.2.2.2.2.2.2.1 d.2.2.2.2.2.2.2.1 d.2.2.2.2.2.2.2.2.1 d.2.2.2.2.2.2.2.2.2) (fun hS h0 h1 h2 => Ep_law_take_a.main hS h0 h1 h2) (w, news, S, a, b, top, t, u, t1, o)) hS h0 h1 h2
namespace Ep_law_take_b
noncomputable def P (w : World) (news : Ledger) (S : Addr) (a : Int) (b : Int) (top : Int) (t : Tok) (u : Tok) (t1 : Tok) (o : Nat) : Prop := ∀ (hS : ∀ p ∈ news, p.1 ≠ S) (h0 : a ≤ 0) (h1 : 0 < top) (h2 : top ≤ 1000000) (hb : 0 ≤ b) (hb1 : b < 2147483647), Fn w 300 [.ref S, .int top t1] ((S, SrcO a b t u o) :: news) 1 (fun ok => ∀ r t' t1 u o', 0 ≤ r → r < top → ok (.int r t') ((S, SrcO a ((b * 39373 + 7).fmod 2147483647) t1 u o') :: news))
theorem ne : Nonempty (World × Ledger × Addr × Int × Int × Int × Tok × Tok × Tok × Nat) := ⟨(wld, default, default, default, default, default, default, default, default, default)⟩
noncomputable def d : World × Ledger × Addr × Int × Int × Int × Tok × Tok × Tok × Nat := cex ne fun d => P d.1 d.2.1 d.2.2.1 d.2.2.2.1 d.2.2.2.2.1 d.2.2.2.2.2.1 d.2.2.2.2.2.2.1 d.2.2.2.2.2.2.2.1 d.2.2.2.2.2.2.2.2.1 d.2.2.2.2.2.2.2.2.2
noncomputable def w : World := d.1
noncomputable def news : Ledger := d.2.1
noncomputable def S : Addr := d.2.2.1
noncomputable def a : Int := d.2.2.2.1
noncomputable def b : Int := d.2.2.2.2.1
noncomputable def top : Int := d.2.2.2.2.2.1
noncomputable def t : Tok := d.2.2.2.2.2.2.1
noncomputable def u : Tok := d.2.2.2.2.2.2.2.1
noncomputable def t1 : Tok := d.2.2.2.2.2.2.2.2.1
noncomputable def o : Nat := d.2.2.2.2.2.2.2.2.2
theorem main (hS : ∀ p ∈ news, p.1 ≠ S) (h0 : a ≤ 0) (h1 : 0 < top) (h2 : top ≤ 1000000) (hb : 0 ≤ b) (hb1 : b < 2147483647) : Fn w 300 [.ref S, .int top t1] ((S, SrcO a b t u o) :: news) 1 (fun ok => ∀ r t' t1 u o', 0 ≤ r → r < top → ok (.int r t') ((S, SrcO a ((b * 39373 + 7).fmod 2147483647) t1 u o') :: news)) := by
  refine' fn_of_body (binds := [(Str.ofString "source", .ref S), (Str.ofString "top", .int top t1)]) ?ho ?hcd ?hb ?hl ?hc ?hR ?body ?c1 ?c2 ?c3
  (case ho => k_is)
  (case hcd => k_is)
  (case hb => rfl)
  (case hl => rfl)
  (case hc => decide)
  (case hR => exact (fun _ _ h k r t t1 u o l1 l2 => h _ _ (k r t t1 u o l1 l2)))
  (case c1 => rfl)
  (case c2 => rfl)
  (case c3 => rfl)
  refine bd_eps ?_
  intro B F X N T hd hu hret
  repeat' ((fail_if_success (with_reducible show wpAny _ _ (exec (Stmt.For _ _ _ _ _) _) _ _ _)); (fail_if_success (with_reducible show wpAny _ _ (pyIter _) _ _ _)); (fail_if_success (with_reducible show wpAny _ _ (exec (Stmt.While _ _ _ _) _) _ _ _)); first | walk1 | (dsimp only; walk1))
  refine' hret _ _ _ _ _ ?l1 ?l2 _ _ _ ?F ?N
  case F => assumption
  case N => assumption
  case l1 => exact fmod_lo _ h1
  case l2 => exact fmod_hi _ h1
end Ep_law_take_b
theorem law_take_b (w : World) (news : Ledger) (S : Addr) (a b top : Int) (t u t1 : Tok) (o : Nat) (hS : ∀ p ∈ news, p.1 ≠ S) (h0 : a ≤ 0) (h1 : 0 < top) (h2 : top ≤ 1000000) (hb : 0 ≤ b) (hb1 : b < 2147483647) : Fn w 300 [.ref S, .int top t1] ((S, SrcO a b t u o) :: news) 1 (fun ok => ∀ r t' t1 u o', 0 ≤ r → r < top → ok (.int r t') ((S, SrcO a ((b * 39373 + 7).fmod 2147483647) t1 u o') :: news)) :=
  (cex_all (ne := Ep_law_take_b.ne) (P := fun d : World × Ledger × Addr × Int × Int × Int × Tok × Tok × Tok × Nat => Ep_law_take_b.P d.1 d.2.1 d.2.2.1 d.2.2.2.1 d.2.2.2.2.1 d.2.2.2.2.2.1 d.2.2.2.2.2.2.1 d.2.2.2.2.2.2.2.1 d.2.2.2.2.2.2.2.2.1 d.2.2.2.2.2.2.2.2.2) (fun hS h0 h1 h2 hb hb1 => Ep_law_take_b.main hS h0 h1 h2 hb hb1) (w, news, S, a, b, top, t, u, t1, o)) hS h0 h1 h2 hb hb1
theorem Fn.weak {w : World} {f : Addr} {vs : List Value} {news : Ledger} {D : Nat} {R R' : Ok → Prop} (h : Fn w f vs news D R) (hi : ∀ ok, R' ok → R ok) : Fn w f vs news D R' :=
  fun mean mg mb dp un gd cn cs a ccd cl outer A₀ base h₀ L m s Q B F X N T hk hd hu hret => h mean mg mb dp un gd cn cs a ccd cl outer A₀ base h₀ L m s Q B F X N T hk hd hu (hi _ hret)
/-- What a word's source answers. -/
noncomputable abbrev TakeR (S : Addr) (news : Ledger) (top : Int) (ok : Ok) : Prop := ∀ r t' a' b' ta tb o', 0 ≤ r → r < top → 0 ≤ a' → 0 ≤ b' → b' < 2147483647 → ok (.int r t') ((S, SrcO a' b' ta tb o') :: news)
theorem law_take_ok (w : World) (news : Ledger) (S : Addr) (a b top : Int) (t u t1 : Tok) (o : Nat) (hS : ∀ p ∈ news, p.1 ≠ S) (h0 : 0 ≤ a) (h1 : 0 < top) (h2 : top ≤ 1000000) (hb : 0 ≤ b) (hb1 : b < 2147483647) :
    Fn w 300 [.ref S, .int top t1] ((S, SrcO a b t u o) :: news) 1 (TakeR S news top) := by
  by_cases ha : 0 < a
  · exact (law_take_a w news S a b top t u t1 o hS ha h1 h2).weak fun ok k t' t1 u o' => k _ _ _ _ _ _ _ (fmod_lo _ h1) (fmod_hi _ h1) (by rw [Int.fdiv_eq_ediv_of_nonneg _ (Int.le_of_lt h1)]; exact Int.ediv_nonneg h0 (Int.le_of_lt h1)) hb hb1
  · exact (law_take_b w news S a b top t u t1 o hS (by omega) h1 h2 hb hb1).weak fun ok k r t' t1 u o' l1 l2 => k _ _ _ _ _ _ _ l1 l2 h0 (fmod_lo _ (by decide)) (fmod_hi _ (by decide))
local macro_rules | `(tactic| walk_at "call ref") => `(tactic| ((with_reducible show wpAny _ _ (call (Value.ref 300) _) _ _ _); refine' fn_useA (law_take_ok _ _ _ _ _ _ _ _ _ _ ?hS ?p1 ?p2 ?p3 ?p4 ?p5) ?_; (case hS => assumption); (case p1 => first | with_reducible assumption | omega); (case p2 => first | with_reducible assumption | omega); (case p3 => first | with_reducible assumption | omega); (case p4 => first | with_reducible assumption | omega); (case p5 => first | with_reducible assumption | omega); intro r' t' a' b' ta' tb' o' l1' l2' l3' l4' l5' h' tk' F' N'))
local macro_rules | `(tactic| walk_at "call builtin:len") => `(tactic| k_dflt (refine len_l (by assumption) (by exact .tail _ (.head _)) (by omega) ?_))
namespace Ep_law_one_ok
noncomputable def P (w : World) (news : Ledger) (S : Addr) (U : Addr) (vs : List Value) (a : Int) (b : Int) (t : Tok) (u : Tok) (o : Nat) (n : Nat) : Prop := ∀ (hS : ∀ p ∈ (U, listOf vs.toArray n) :: news, p.1 ≠ S) (h0 : 0 ≤ a) (hv : 0 < vs.length) (hv2 : vs.length ≤ 1000) (hb : 0 ≤ b) (hb1 : b < 2147483647), Fn w 307 [.ref S, .ref U] ((S, SrcO a b t u o) :: (U, listOf vs.toArray n) :: news) 2 (fun ok => ∀ (i : Nat) v a' b' ta tb o', vs[i]? = some v → 0 ≤ a' → 0 ≤ b' → b' < 2147483647 → ok v ((S, SrcO a' b' ta tb o') :: (U, listOf vs.toArray n) :: news))
theorem ne : Nonempty (World × Ledger × Addr × Addr × (List Value) × Int × Int × Tok × Tok × Nat × Nat) := ⟨(wld, default, default, default, default, default, default, default, default, default, default)⟩
noncomputable def d : World × Ledger × Addr × Addr × (List Value) × Int × Int × Tok × Tok × Nat × Nat := cex ne fun d => P d.1 d.2.1 d.2.2.1 d.2.2.2.1 d.2.2.2.2.1 d.2.2.2.2.2.1 d.2.2.2.2.2.2.1 d.2.2.2.2.2.2.2.1 d.2.2.2.2.2.2.2.2.1 d.2.2.2.2.2.2.2.2.2.1 d.2.2.2.2.2.2.2.2.2.2
noncomputable def w : World := d.1
noncomputable def news : Ledger := d.2.1
noncomputable def S : Addr := d.2.2.1
noncomputable def U : Addr := d.2.2.2.1
noncomputable def vs : List Value := d.2.2.2.2.1
noncomputable def a : Int := d.2.2.2.2.2.1
noncomputable def b : Int := d.2.2.2.2.2.2.1
noncomputable def t : Tok := d.2.2.2.2.2.2.2.1
noncomputable def u : Tok := d.2.2.2.2.2.2.2.2.1
noncomputable def o : Nat := d.2.2.2.2.2.2.2.2.2.1
noncomputable def n : Nat := d.2.2.2.2.2.2.2.2.2.2
theorem main (hS : ∀ p ∈ (U, listOf vs.toArray n) :: news, p.1 ≠ S) (h0 : 0 ≤ a) (hv : 0 < vs.length) (hv2 : vs.length ≤ 1000) (hb : 0 ≤ b) (hb1 : b < 2147483647) : Fn w 307 [.ref S, .ref U] ((S, SrcO a b t u o) :: (U, listOf vs.toArray n) :: news) 2 (fun ok => ∀ (i : Nat) v a' b' ta tb o', vs[i]? = some v → 0 ≤ a' → 0 ≤ b' → b' < 2147483647 → ok v ((S, SrcO a' b' ta tb o') :: (U, listOf vs.toArray n) :: news)) := by
  refine' fn_of_body (binds := [(Str.ofString "source", .ref S), (Str.ofString "things", .ref U)]) ?ho ?hcd ?hb ?hl ?hc ?hR ?body ?c1 ?c2 ?c3
  (case ho => k_is)
  (case hcd => k_is)
  (case hb => rfl)
  (case hl => rfl)
  (case hc => decide)
  (case hR => exact (fun _ _ h k i v a' b' ta tb o' e l1 l2 l3 => h _ _ (k i v a' b' ta tb o' e l1 l2 l3)))
  (case c1 => rfl)
  (case c2 => rfl)
  (case c3 => rfl)
  refine bd_eps ?_
  intro B F X N T hd hu hret
  repeat' ((fail_if_success (with_reducible show wpAny _ _ (exec (Stmt.For _ _ _ _ _) _) _ _ _)); (fail_if_success (with_reducible show wpAny _ _ (pyIter _) _ _ _)); (fail_if_success (with_reducible show wpAny _ _ (exec (Stmt.While _ _ _ _) _) _ _ _)); first | walk1 | (dsimp only; walk1))
  rename_i r1 t1 a1 b1 ta1 tb1 o1 l1 l2 l3 l4 l5 h1 tk1 F1 N1
  obtain ⟨v, hv⟩ : ∃ v, vs[r1.toNat]? = some v := ⟨_, List.getElem?_eq_getElem (by omega)⟩
  refine item_l N1 (.tail _ (.head _)) l1 (by omega) hv ?_
  repeat' ((fail_if_success (with_reducible show wpAny _ _ (exec (Stmt.For _ _ _ _ _) _) _ _ _)); (fail_if_success (with_reducible show wpAny _ _ (pyIter _) _ _ _)); (fail_if_success (with_reducible show wpAny _ _ (exec (Stmt.While _ _ _ _) _) _ _ _)); first | walk1 | (dsimp only; walk1))
  exact hret _ _ _ _ _ _ _ hv l3 l4 l5 _ _ _ F1 N1
end Ep_law_one_ok
theorem law_one_ok (w : World) (news : Ledger) (S U : Addr) (vs : List Value) (a b : Int) (t u : Tok) (o n : Nat) (hS : ∀ p ∈ (U, listOf vs.toArray n) :: news, p.1 ≠ S) (h0 : 0 ≤ a) (hv : 0 < vs.length) (hv2 : vs.length ≤ 1000) (hb : 0 ≤ b) (hb1 : b < 2147483647) : Fn w 307 [.ref S, .ref U] ((S, SrcO a b t u o) :: (U, listOf vs.toArray n) :: news) 2 (fun ok => ∀ (i : Nat) v a' b' ta tb o', vs[i]? = some v → 0 ≤ a' → 0 ≤ b' → b' < 2147483647 → ok v ((S, SrcO a' b' ta tb o') :: (U, listOf vs.toArray n) :: news)) :=
  (cex_all (ne := Ep_law_one_ok.ne) (P := fun d : World × Ledger × Addr × Addr × (List Value) × Int × Int × Tok × Tok × Nat × Nat => Ep_law_one_ok.P d.1 d.2.1 d.2.2.1 d.2.2.2.1 d.2.2.2.2.1 d.2.2.2.2.2.1 d.2.2.2.2.2.2.1 d.2.2.2.2.2.2.2.1 d.2.2.2.2.2.2.2.2.1 d.2.2.2.2.2.2.2.2.2.1 d.2.2.2.2.2.2.2.2.2.2) (fun hS h0 hv hv2 hb hb1 => Ep_law_one_ok.main hS h0 hv hv2 hb hb1) (w, news, S, U, vs, a, b, t, u, o, n)) hS h0 hv hv2 hb hb1
end
section
variable {prog : Program} {w : World} {A : Around} {E : Value → Shared → Prop} {s : Shared} {env : Env} {h₀ : Heap} {x : Str} {body : List Stmt} {Q : Flow → Shared → Prop} {m₀ : Map} {news : Ledger} {σ : Type}
/-- `for x in range(..)`. -/
theorem it_range {r : Addr} {a b : Int} {t u v : Tok} {n : Nat} (P : Nat → σ → Prop) (M : Nat → σ → Map → Map) (Nn : Nat → σ → Ledger → Ledger) (c₀ : σ) (hh : A.handled = none)
    (hr : IsRange s.heap r a b 1 t u v) (hsm : Builtin.Range.small a b 1 = true) (hn : Builtin.Range.rangeSize a b 1 = ((n : Nat) : Int))
    (F : Fr h₀ env.locals s.heap m₀) (N : News h₀ env.locals s.heap news) (h0 : P 0 c₀) (hM : m₀ = M 0 c₀ m₀) (hN : news = Nn 0 c₀ news)
    (turn : ∀ (i : Nat) t d h tk own, i < n → OwnOff own (news.map (·.1)) → P i d → Fr h₀ env.locals h (fun y => if y = x then some (.int (a + (i : Int)) t) else M i d m₀ y) → News h₀ env.locals h (Nn i d news ++ own) →
      wpAny (model prog w) A (execs body env) (ItPost h₀ env.locals P M Nn m₀ news own (i + 1) { s with heap := h, toks := tk } Q) E { s with heap := h, toks := tk })
    (done : ∀ d h tk, P n d → Fr h₀ env.locals h (M n d m₀) → News h₀ env.locals h (Nn n d news) → Q .next { s with heap := h, toks := tk }) :
    wpAny (model prog w) A (pyIter (.ref r)) (fun it s₂ => LoopAtV prog w A h₀ env x body Q E it s₂) E s := by
  refine wpAny_pyIter_range hr hsm ?_
  refine it_gen P M Nn c₀ (LCg.range_walks hh (I := s.heap.objs.size) a n) ?_ ?_ ?_ ?_ ?_ (F.push _) (fun p hp => ⟨Heap.get?_push_of_some _ (N p hp).1, (N p hp).2⟩) h0 hM hN ?_ done
  · intro hm
    exact absurd F.ns.lt ((List.mem_singleton.mp hm) ▸ Nat.lt_irrefl _)
  · intro b hb
    rw [List.mem_singleton.mp hb]
    exact next_is_new F
  · intro p hp hI
    exact absurd (Heap.lt_size (N p hp).1) ((List.mem_singleton.mp hI) ▸ Nat.lt_irrefl _)
  · intro p hp hI
    exact absurd (Heap.lt_size (N p hp).1) ((List.mem_singleton.mp hI) ▸ Nat.lt_irrefl _)
  · show IsRangeIter _ _ _ _ _
    rw [hn]
    simpa using Heap.get?_push_size _ rfl
  · rintro i v d h tk own hi ⟨t, rfl⟩ hoff hP F₁ N₁
    exact turn i t d h tk own hi hoff hP F₁ N₁
end
theorem news_swap {h₀ h : Heap} {L : Addr} {p q : Addr × Obj} {r : Ledger} (N : News h₀ L h (p :: q :: r)) : News h₀ L h (q :: p :: r) := news_of N fun x hx => by
  rcases List.mem_cons.mp hx with rfl | hx
  · exact .tail _ (.head _)
  · rcases List.mem_cons.mp hx with rfl | hx
    · exact .head _
    · exact .tail _ (.tail _ hx)
noncomputable abbrev RR (n : Int) : Prop := 0 ≤ n ∧ n ≤ 1114111 ∧ (n < 55296 ∨ 57343 < n)
/-- The last figures of a number, by the base 16. -/
noncomputable def hexL (n : Int) : Nat → Str
  | 0 => Str.ofString ""
  | k + 1 => Txt.item HEXD ((n.fdiv (16 ^ k)).fmod 16) ++ hexL n k
theorem hexL_len (n : Int) : ∀ k, (hexL n k).length = k
  | 0 => rfl
  | k + 1 => by
    show (Txt.item HEXD ((n.fdiv (16 ^ k)).fmod 16) ++ hexL n k).length = k + 1
    rw [Str.length_append, hexL_len n k]
    show 1 + k = k + 1
    omega
theorem hexL_div {n : Int} (h : 0 ≤ n) (k : Nat) : (n.fdiv (16 ^ k)).fdiv 16 = n.fdiv (16 ^ (k + 1)) := by
  have hp : (0 : Int) ≤ 16 ^ k := Int.pow_nonneg (by decide)
  have hp1 : (0 : Int) ≤ 16 ^ (k + 1) := Int.pow_nonneg (by decide)
  rw [Int.fdiv_eq_ediv_of_nonneg _ hp, Int.fdiv_eq_ediv_of_nonneg _ (by decide), Int.fdiv_eq_ediv_of_nonneg _ hp1, Int.ediv_ediv_of_nonneg hp, Int.pow_succ]
/-- A rune's text, the rune named in it. -/
noncomputable def RuneT (n : Int) (y : Str) : Prop := (32 ≤ n ∧ n < 127 ∧ n ≠ 39 ∧ n ≠ 92 ∧ y = Str.ofString "'" ++ ⟨#[n.toNat]⟩ ++ Str.ofString "'") ∨ ((n < 32 ∨ 127 ≤ n ∨ n = 39 ∨ n = 92) ∧ y = Str.ofString "'" ++ (Str.ofString "\\U" ++ hexL n 8) ++ Str.ofString "'")
noncomputable def rM (n : Int) (i : Nat) (c : Tok × Tok × Option Value) (m₀ : Map) : Map := fun y => if y = Str.ofString "turn" then c.2.2 else if y = Str.ofString "left" then some (.int (n.fdiv (16 ^ i)) c.2.1) else if y = Str.ofString "figures" then some (.str (hexL n i) c.1) else m₀ y
noncomputable def rP (_ : Nat) (_ : Tok × Tok × Option Value) : Prop := True
noncomputable def rN (_ : Nat) (_ : Tok × Tok × Option Value) (l : Ledger) : Ledger := l
section
variable {prog : Program} {w : World} {A : Around} {E : Value → Shared → Prop} {s : Shared} {env : Env} {h₀ : Heap} {body : List Stmt} {Q : Flow → Shared → Prop} {m₁ : Map} {news : Ledger}
theorem rune_it {r : Addr} {t u v T1 T2 : Tok} {n : Int} (hh : A.handled = none) (hr : IsRange s.heap r 0 8 1 t u v)
    (F : Fr h₀ env.locals s.heap (fun y => if y = Str.ofString "figures" then some (.str (Str.ofString "") T1) else if y = Str.ofString "left" then some (.int n T2) else m₁ y)) (N : News h₀ env.locals s.heap news) (ht : m₁ (Str.ofString "turn") = none)
    (turn : ∀ (i : Nat) t T1 T2 V h tk own, i < 8 → OwnOff own (news.map (·.1)) → Fr h₀ env.locals h (fun y => if y = Str.ofString "turn" then some (.int (0 + (i : Int)) t) else rM n i (T1, T2, V) m₁ y) → News h₀ env.locals h (news ++ own) →
      wpAny (model prog w) A (execs body env) (ItPost h₀ env.locals rP (rM n) rN m₁ news own (i + 1) { s with heap := h, toks := tk } Q) E { s with heap := h, toks := tk })
    (done : ∀ T1 T2 V h tk, Fr h₀ env.locals h (rM n 8 (T1, T2, V) m₁) → News h₀ env.locals h news → Q .next { s with heap := h, toks := tk }) :
    wpAny (model prog w) A (pyIter (.ref r)) (fun it s₂ => LoopAtV prog w A h₀ env (Str.ofString "turn") body Q E it s₂) E s := by
  have e : (fun y => if y = Str.ofString "figures" then some (.str (Str.ofString "") T1) else if y = Str.ofString "left" then some (.int n T2) else m₁ y) = rM n 0 (T1, T2, none) m₁ := by
    funext y
    unfold rM
    by_cases h1 : y = Str.ofString "turn"
    · subst h1
      rw [if_pos rfl, if_neg (by decide), if_neg (by decide), ht]
    · rw [if_neg h1]
      by_cases h2 : y = Str.ofString "left"
      · subst h2
        rw [if_neg (by decide), if_pos rfl, if_pos rfl]
        simp
      · rw [if_neg h2, if_neg h2]
        rfl
  have e2 : rM n 0 (T1, T2, none) m₁ = rM n 0 (T1, T2, none) (rM n 0 (T1, T2, none) m₁) := by
    funext y
    unfold rM
    by_cases h1 : y = Str.ofString "turn" <;> by_cases h2 : y = Str.ofString "left" <;> by_cases h3 : y = Str.ofString "figures" <;> simp [h1, h2, h3]
  have e3 : ∀ i c, rM n i c (rM n 0 (T1, T2, none) m₁) = rM n i c m₁ := by
    intro i c
    funext y
    unfold rM
    by_cases h1 : y = Str.ofString "turn" <;> by_cases h2 : y = Str.ofString "left" <;> by_cases h3 : y = Str.ofString "figures" <;> simp [h1, h2, h3]
  rw [e] at F
  refine it_range (n := 8) rP (rM n) rN (T1, T2, none) hh hr (by decide) (by decide) F N trivial e2 rfl ?_ ?_
  · intro i t d h tk own hi hoff _ F₁ N₁
    rw [e3] at F₁
    have := turn i t d.1 d.2.1 d.2.2 h tk own hi hoff F₁ N₁
    unfold ItPost at this ⊢
    simp only [e3]
    exact this
  · intro d h tk _ F₁ N₁
    rw [e3] at F₁
    exact done d.1 d.2.1 d.2.2 h tk F₁ N₁
end
theorem rune_end {h₀ h' : Heap} {L : Addr} {n : Int} {i : Nat} {c : Tok × Tok × Option Value} {m₁ : Map} {v : Value} {T1 T2 : Tok} {news own : Ledger} {s : Shared} {tk : Nat} {Q : Flow → Shared → Prop} (h0 : 0 ≤ n)
    (F : Fr h₀ L h' (fun y => if y = Str.ofString "left" then some (.int ((n.fdiv (16 ^ i)).fdiv 16) T2) else if y = Str.ofString "figures" then some (.str (Txt.item HEXD ((n.fdiv (16 ^ i)).fmod 16) ++ hexL n i) T1) else if y = Str.ofString "turn" then some v else rM n i c m₁ y))
    (N : News h₀ L h' (news ++ own)) : ItPost h₀ L rP (rM n) rN m₁ news own (i + 1) s Q .next { s with heap := h', toks := tk } := by
  refine it_end (T1, T2, some v) F N (fun p hp => List.mem_append.mpr (.inl hp)) (fun p hp => List.mem_append.mpr (.inr hp)) rfl ?_ trivial
  funext y
  rw [hexL_div h0]
  unfold rM
  by_cases h1 : y = Str.ofString "turn"
  · subst h1
    rfl
  · by_cases h2 : y = Str.ofString "left"
    · subst h2; rfl
    · by_cases h3 : y = Str.ofString "figures"
      · subst h3; rfl
      · simp only [h1, h2, h3, if_false]
theorem take_use {w : World} {mean : ExcName → Option Value} {mg mb : Str → Option Value} {dp un : Nat} {gd : Option (List Code)} {cn : Str} {cs : Scope} {ad : Addr} {ccd : Value} {cl : List (Str × Addr)} {outer : List Env} {A₀ : Around} {base h₀ : Heap} {L : Addr} {m : Str → Option Value} {s : Shared} {E : Value → Shared → Prop} {Q : Value → Shared → Prop} {news : Ledger} {S : Addr} {a b top : Int} {t u t1 : Tok} {o : Nat}
    (k : TakeR S news top (fun v news' => ∀ h' tk', Fr h₀ L h' m → News h₀ L h' news' → Q v { s with heap := h', toks := tk' })) (N : News h₀ L s.heap ((S, SrcO a b t u o) :: news) := by assumption) (B : Below A₀ base outer h₀ := by assumption) (F : Fr h₀ L s.heap m := by assumption) (X : (Mine.fr.heap_1 w.params).In h₀ := by assumption) (T : Top Mine.view LO mean mg mb h₀ := by assumption)
    (hS : ∀ p ∈ news, p.1 ≠ S := by assumption) (h0 : 0 ≤ a := by first | with_reducible assumption | omega) (h1 : 0 < top := by first | with_reducible assumption | omega | decide) (h2 : top ≤ 1000000 := by first | with_reducible assumption | omega | decide) (hb : 0 ≤ b := by first | with_reducible assumption | omega) (hb1 : b < 2147483647 := by first | with_reducible assumption | omega) (hk : cs.kind = .function := by rfl) (hd : dp + 1 < recursionLimit := by first | exact dlt (by assumption) (by rfl) | omega) (hu : un + 8 * 1 < cLine := by first | exact ult (by assumption) (by rfl) | omega) :
    wpAny (model PRG w) (ktrTop dp un gd cn cs L ad ccd cl outer) (call (.ref 300) [.ref S, .int top t1]) Q E s :=
  wpAny_mono (fn_use (law_take_ok w news S a b top t u t1 o hS h0 h1 h2 hb hb1) B F X N T hk hd hu k) (fun _ _ x => x) fun _ _ x => x.elim
theorem one_use {w : World} {mean : ExcName → Option Value} {mg mb : Str → Option Value} {dp un : Nat} {gd : Option (List Code)} {cn : Str} {cs : Scope} {ad : Addr} {ccd : Value} {cl : List (Str × Addr)} {outer : List Env} {A₀ : Around} {base h₀ : Heap} {L : Addr} {m : Str → Option Value} {s : Shared} {E : Value → Shared → Prop} {Q : Value → Shared → Prop} {news : Ledger} {S U : Addr} {vs : List Value} {a b : Int} {t u : Tok} {o n : Nat}
    (k : ∀ (i : Nat) v a' b' ta tb o', vs[i]? = some v → 0 ≤ a' → 0 ≤ b' → b' < 2147483647 → ∀ h' tk', Fr h₀ L h' m → News h₀ L h' ((S, SrcO a' b' ta tb o') :: (U, listOf vs.toArray n) :: news) → Q v { s with heap := h', toks := tk' }) (N : News h₀ L s.heap ((U, listOf vs.toArray n) :: (S, SrcO a b t u o) :: news) := by assumption) (B : Below A₀ base outer h₀ := by assumption) (F : Fr h₀ L s.heap m := by assumption) (X : (Mine.fr.heap_1 w.params).In h₀ := by assumption) (T : Top Mine.view LO mean mg mb h₀ := by assumption)
    (hS : U ≠ S := by exact Nat.ne_of_gt (And.left (by assumption))) (hS2 : ∀ p ∈ news, p.1 ≠ S := by assumption) (h0 : 0 ≤ a := by first | with_reducible assumption | omega) (hv : 0 < vs.length := by exact Nat.zero_lt_succ _) (hv2 : vs.length ≤ 1000 := by exact Nat.le_of_ble_eq_true rfl) (hb : 0 ≤ b := by first | with_reducible assumption | omega) (hb1 : b < 2147483647 := by first | with_reducible assumption | omega) (hk : cs.kind = .function := by rfl) (hd : dp + 2 < recursionLimit := by first | exact dlt (by assumption) (by rfl) | omega) (hu : un + 8 * 2 < cLine := by first | exact ult (by assumption) (by rfl) | omega) :
    wpAny (model PRG w) (ktrTop dp un gd cn cs L ad ccd cl outer) (call (.ref 307) [.ref S, .ref U]) Q E s :=
  wpAny_mono (fn_use (law_one_ok w news S U vs a b t u o n (List.forall_mem_cons.mpr ⟨hS, hS2⟩) h0 hv hv2 hb hb1) B F X (news_swap N) T hk hd hu k) (fun _ _ x => x) fun _ _ x => x.elim
local macro_rules | `(tactic| walk_at "call ref") => `(tactic| ((with_reducible show wpAny _ _ (call (Value.ref 300) _) _ _ _); refine take_use ?_; intro r' t' a' b' ta' tb' o' l1' l2' l3' l4' l5' h' tk' F' N'))
section
local macro_rules | `(tactic| walk_at "call ref") => `(tactic| ((with_reducible show wpAny _ _ (call (Value.ref 307) _) _ _ _); refine one_use ?_; intro i' v' a' b' ta' tb' o' hv' l3' l4' l5' h' tk' F' N'))
noncomputable def PlainB (pl : Bool) (n : Int) : Prop := pl = true ↔ (32 ≤ n ∧ n < 127 ∧ n ≠ 39 ∧ n ≠ 92)
theorem not_plain {n a b : Int} (h : ¬ (32 ≤ n ∧ n < 127 ∧ n ≠ a ∧ n ≠ b)) : n < 32 ∨ 127 ≤ n ∨ n = a ∨ n = b := by omega
theorem not_plainN {n a b : Nat} (h : ¬ (32 ≤ n ∧ n < 127 ∧ n ≠ a ∧ n ≠ b)) : n < 32 ∨ 127 ≤ n ∨ n = a ∨ n = b := by omega
theorem plain_not {n a b : Int} (h : n < 32 ∨ 127 ≤ n ∨ n = a ∨ n = b) : ¬ (32 ≤ n ∧ n < 127 ∧ n ≠ a ∧ n ≠ b) := by omega
theorem plainB_f {n : Int} (h : PlainB false n) : n < 32 ∨ 127 ≤ n ∨ n = 39 ∨ n = 92 := not_plain fun e => Bool.noConfusion (h.mpr e)
theorem plainB_t {n : Int} (h : PlainB true n) : 32 ≤ n ∧ n < 127 ∧ n ≠ 39 ∧ n ≠ 92 := h.mp rfl
theorem plainB_any {n : Int} (h1 : 32 ≤ n) (h2 : n < 127) (h3 : n ≠ 39) (h4 : n ≠ 92) : PlainB (![39, 92].any fun x => x == n) n := iff_of_true (by rw [any2_f h3 h4]; rfl) ⟨h1, h2, h3, h4⟩
theorem plainB_anyF {n : Int} (h : n = 39 ∨ n = 92) : PlainB (![39, 92].any fun x => x == n) n := iff_of_false (by rw [any2_t h]; exact Bool.false_ne_true) (plain_not (.inr (.inr h)))
theorem plainB_tt {n : Int} (h1 : 32 ≤ n) (h2 : n < 127) (h3 : n ≠ 39) (h4 : n ≠ 92) : PlainB true n := iff_of_true rfl ⟨h1, h2, h3, h4⟩
theorem plainB_ff {n : Int} (h : n < 32 ∨ 127 ≤ n ∨ n = 39 ∨ n = 92) : PlainB false n := iff_of_false Bool.false_ne_true (plain_not h)
namespace Ep_law_rune_ok
noncomputable def P (w : World) (news : Ledger) (S : Addr) (a : Int) (b : Int) (t : Tok) (u : Tok) (o : Nat) : Prop := ∀ (hS : ∀ p ∈ news, p.1 ≠ S) (h0 : 0 ≤ a) (hb : 0 ≤ b) (hb1 : b < 2147483647), Fn w 321 [.ref S] ((S, SrcO a b t u o) :: news) 3 (fun ok => ∀ p n y a' b' ta tb o' t1 t2, RR n → RuneT n y → 0 ≤ a' → 0 ≤ b' → b' < 2147483647 → (∀ q ∈ (S, SrcO a' b' ta tb o') :: news, q.1 < p) → ok (.ref p) ((p, tupO [.int n t1, .str y t2]) :: (S, SrcO a' b' ta tb o') :: news))
theorem ne : Nonempty (World × Ledger × Addr × Int × Int × Tok × Tok × Nat) := ⟨(wld, default, default, default, default, default, default, default)⟩
noncomputable def d : World × Ledger × Addr × Int × Int × Tok × Tok × Nat := cex ne fun d => P d.1 d.2.1 d.2.2.1 d.2.2.2.1 d.2.2.2.2.1 d.2.2.2.2.2.1 d.2.2.2.2.2.2.1 d.2.2.2.2.2.2.2
noncomputable def w : World := d.1
noncomputable def news : Ledger := d.2.1
noncomputable def S : Addr := d.2.2.1
noncomputable def a : Int := d.2.2.2.1
noncomputable def b : Int := d.2.2.2.2.1
noncomputable def t : Tok := d.2.2.2.2.2.1
noncomputable def u : Tok := d.2.2.2.2.2.2.1
noncomputable def o : Nat := d.2.2.2.2.2.2.2
theorem main (hS : ∀ p ∈ news, p.1 ≠ S) (h0 : 0 ≤ a) (hb : 0 ≤ b) (hb1 : b < 2147483647) : Fn w 321 [.ref S] ((S, SrcO a b t u o) :: news) 3 (fun ok => ∀ p n y a' b' ta tb o' t1 t2, RR n → RuneT n y → 0 ≤ a' → 0 ≤ b' → b' < 2147483647 → (∀ q ∈ (S, SrcO a' b' ta tb o') :: news, q.1 < p) → ok (.ref p) ((p, tupO [.int n t1, .str y t2]) :: (S, SrcO a' b' ta tb o') :: news)) := by
  refine' fn_of_body (binds := [(Str.ofString "source", .ref S)]) ?ho ?hcd ?hb ?hl ?hc ?hR ?body ?c1 ?c2 ?c3
  (case ho => k_is)
  (case hcd => k_is)
  (case hb => rfl)
  (case hl => rfl)
  (case hc => decide)
  (case hR => exact (fun _ _ h k p n y a' b' ta tb o' t1 t2 l1 l2 l3 l4 l5 l6 => h _ _ (k p n y a' b' ta tb o' t1 t2 l1 l2 l3 l4 l5 l6)))
  (case c1 => rfl)
  (case c2 => rfl)
  (case c3 => rfl)
  refine bd_eps ?_
  intro B F X N T hd hu hret
  refine wpAny_execs_cons ?_
  repeat' ((fail_if_success (with_reducible show wpAny _ _ (execs (_ :: _) _) _ _ _)); first | walk1 | (dsimp only; (fail_if_success (with_reducible show wpAny _ _ (execs (_ :: _) _) _ _ _)); walk1))
  rename_i r1 t1 a1 b1 ta1 tb1 o1 l1 l2 l3 l4 l5 h1 tk1 U h2 l6 i1 v a2 b2 ta2 tb2 o2 hv m3 m4 m5 h3 tk3 h4 F1 N1
  have hm := List.mem_of_getElem? hv
  obtain ⟨n, tn, rfl, hn⟩ : ∃ n tn, v = Value.int n tn ∧ RR n := by
    clear hv N1 F1
    iterate 21 (rcases List.mem_cons.mp hm with e | hm; · exact ⟨_, _, e, by (show 0 ≤ _ ∧ _ ∧ _); omega⟩)
    cases hm
  clear hm hv
  obtain ⟨n0, n1, n2⟩ := hn
  have N2 : News _ _ _ ((S, SrcO a2 b2 ta2 tb2 o2) :: news) := news_of N1 (List.Sublist.subset (.cons₂ _ (.cons _ (.refl _))))
  clear N1
  (try dsimp only)
  refine execs_cutS (by assumption) (fun M' nw => ∃ pl : Bool, PlainB pl n ∧ M' (Str.ofString "number") = some (.int n tn) ∧ M' (Str.ofString "plain") = some (.bool pl) ∧ M' (Str.ofString "turn") = none ∧ nw = (S, SrcO a2 b2 ta2 tb2 o2) :: news) ?st1 ?_
  case st1 =>
    have hsp : (32 ≤ n ∧ n < 127 ∧ n ≠ 39 ∧ n ≠ 92) ∨ n < 32 ∨ 127 ≤ n ∨ n = 39 ∨ n = 92 := by omega
    rcases hsp with ⟨c1, c2, c3, c4⟩ | c1 | c1 | c1 | c1
    all_goals
      repeat' ((fail_if_success (with_reducible show wpAny _ _ (exec (Stmt.For _ _ _ _ _) _) _ _ _)); (fail_if_success (with_reducible show wpAny _ _ (pyIter _) _ _ _)); (fail_if_success (with_reducible show wpAny _ _ (exec (Stmt.While _ _ _ _) _) _ _ _)); first | walk1 | (dsimp only; walk1))
      refine' ⟨rfl, _, _, _, _, rfl, ?F, ?N, _, ?pl, ?s1, ?s2, ?s3, rfl⟩
      case F => assumption
      case N => exact news_of (by assumption) (by walk_at "sub")
      case s1 => rfl
      case s2 => rfl
      case s3 => rfl
      case pl => first | exact plainB_tt c1 c2 c3 c4 | exact plainB_any c1 c2 c3 c4 | exact plainB_ff (.inl c1) | exact plainB_ff (.inr (.inl c1)) | exact plainB_anyF (.inl c1) | exact plainB_anyF (.inr c1) | exact plainB_ff (.inr (.inr (.inl c1))) | exact plainB_ff (.inr (.inr (.inr c1)))
  rintro h5 tk5 M1 _ F5 N5 ⟨pl, hpl, q1, q2, q3, rfl⟩
  rw [upd3 q1 q2 q3] at F5
  repeat' ((fail_if_success (with_reducible show wpAny _ _ (exec (Stmt.For _ _ _ _ _) _) _ _ _)); (fail_if_success (with_reducible show wpAny _ _ (pyIter _) _ _ _)); (fail_if_success (with_reducible show wpAny _ _ (exec (Stmt.While _ _ _ _) _) _ _ _)); first | walk1 | (dsimp only; walk1))
  refine For_invVF (by assumption) rfl rfl ?_ (hE := PassesOwn.never)
  repeat' ((fail_if_success (with_reducible show wpAny _ _ (exec (Stmt.For _ _ _ _ _) _) _ _ _)); (fail_if_success (with_reducible show wpAny _ _ (pyIter _) _ _ _)); (fail_if_success (with_reducible show wpAny _ _ (exec (Stmt.While _ _ _ _) _) _ _ _)); first | walk1 | (dsimp only; walk1))
  refine' rune_it rfl (by assumption) (by assumption) (by assumption) rfl ?turn ?done
  case turn =>
    intro i t T1 T2 V h tk own hi hoff F₁ N₁
    have hl8 : (hexL n i).length ≤ 8 := by rw [hexL_len]; omega
    change Fr _ _ h _ at F₁
    change News _ _ h _ at N₁
    repeat' ((fail_if_success (with_reducible show wpAny _ _ (exec (Stmt.For _ _ _ _ _) _) _ _ _)); (fail_if_success (with_reducible show wpAny _ _ (pyIter _) _ _ _)); (fail_if_success (with_reducible show wpAny _ _ (exec (Stmt.While _ _ _ _) _) _ _ _)); first | walk1 | (dsimp only; walk1))
    exact rune_end n0 (by assumption) (by assumption)
  case done =>
    intro T1 T2 V h tk F₁ N₁
    have hl8 : (hexL n 8).length ≤ 8 := by rw [hexL_len]; omega
    change Fr _ _ h _ at F₁
    change News _ _ h _ at N₁
    cases pl
    · repeat' ((fail_if_success (with_reducible show wpAny _ _ (exec (Stmt.For _ _ _ _ _) _) _ _ _)); (fail_if_success (with_reducible show wpAny _ _ (pyIter _) _ _ _)); (fail_if_success (with_reducible show wpAny _ _ (exec (Stmt.While _ _ _ _) _) _ _ _)); first | walk1 | (dsimp only; walk1))
      have hp := plainB_f hpl
      refine' hret _ n _ _ _ _ _ _ _ _ ⟨n0, n1, n2⟩ (Or.inr ⟨hp, rfl⟩) m3 m4 m5 ?hl _ _ _ ?F ?N
      case N => first | exact news_of (by assumption) (List.Sublist.subset (.cons₂ _ (.cons _ (.refl _)))) | exact news_of (by assumption) (List.Sublist.subset (.cons₂ _ (.cons _ (.cons _ (.refl _)))))
      case F => assumption
      case hl => first | exact ktn_ltOf (l := _ :: _) (And.right (by assumption)) | exact ktn_ltOf (l := _ :: _) (And.right (And.right (by assumption)))
    · have hc := plainB_t hpl
      obtain ⟨c1, c2, -, -⟩ := hc
      repeat' ((fail_if_success (with_reducible show wpAny _ _ (exec (Stmt.For _ _ _ _ _) _) _ _ _)); (fail_if_success (with_reducible show wpAny _ _ (pyIter _) _ _ _)); (fail_if_success (with_reducible show wpAny _ _ (exec (Stmt.While _ _ _ _) _) _ _ _)); first | walk1 | (dsimp only; walk1))
      have hc := plainB_t hpl
      refine' hret _ n _ _ _ _ _ _ _ _ ⟨n0, n1, n2⟩ (Or.inl ⟨c1, c2, hc.2.2.1, hc.2.2.2, rfl⟩) m3 m4 m5 ?hl _ _ _ ?F ?N
      case N => first | exact news_of (by assumption) (List.Sublist.subset (.cons₂ _ (.cons _ (.refl _)))) | exact news_of (by assumption) (List.Sublist.subset (.cons₂ _ (.cons _ (.cons _ (.refl _)))))
      case F => assumption
      case hl => first | exact ktn_ltOf (l := _ :: _) (And.right (by assumption)) | exact ktn_ltOf (l := _ :: _) (And.right (And.right (by assumption)))
end Ep_law_rune_ok
theorem law_rune_ok (w : World) (news : Ledger) (S : Addr) (a b : Int) (t u : Tok) (o : Nat) (hS : ∀ p ∈ news, p.1 ≠ S) (h0 : 0 ≤ a) (hb : 0 ≤ b) (hb1 : b < 2147483647) : Fn w 321 [.ref S] ((S, SrcO a b t u o) :: news) 3 (fun ok => ∀ p n y a' b' ta tb o' t1 t2, RR n → RuneT n y → 0 ≤ a' → 0 ≤ b' → b' < 2147483647 → (∀ q ∈ (S, SrcO a' b' ta tb o') :: news, q.1 < p) → ok (.ref p) ((p, tupO [.int n t1, .str y t2]) :: (S, SrcO a' b' ta tb o') :: news)) :=
  (cex_all (ne := Ep_law_rune_ok.ne) (P := fun d : World × Ledger × Addr × Int × Int × Tok × Tok × Nat => Ep_law_rune_ok.P d.1 d.2.1 d.2.2.1 d.2.2.2.1 d.2.2.2.2.1 d.2.2.2.2.2.1 d.2.2.2.2.2.2.1 d.2.2.2.2.2.2.2) (fun hS h0 hb hb1 => Ep_law_rune_ok.main hS h0 hb hb1) (w, news, S, a, b, t, u, o)) hS h0 hb hb1
end
theorem num_pick {v : Value} {t0 t1 t2 t3 : Tok} {x y z B : Int} (hm : v ∈ [Value.int 0 t0, .int x t1, .int y t2, .int z t3]) (hB : 0 < B) (hx : 0 ≤ x ∧ x < B) (hy : 0 ≤ y ∧ y < B) (hz : 0 ≤ z ∧ z < B) : ∃ n t, v = Value.int n t ∧ 0 ≤ n ∧ n < B := by
  rcases List.mem_cons.mp hm with e | hm
  · exact ⟨_, _, e, Int.le_refl _, hB⟩
  rcases List.mem_cons.mp hm with e | hm
  · exact ⟨_, _, e, hx⟩
  rcases List.mem_cons.mp hm with e | hm
  · exact ⟨_, _, e, hy⟩
  rcases List.mem_cons.mp hm with e | hm
  · exact ⟨_, _, e, hz⟩
  cases hm
noncomputable def nM (n : Int) (c : Nat × Tok × Tok) (m₀ : Map) : Map := fun y => if y = Str.ofString "left" then some (.int (n.fdiv (16 ^ c.1)) c.2.2) else if y = Str.ofString "figures" then some (.str (hexL n c.1) c.2.1) else m₀ y
noncomputable def nP (n : Int) (c : Nat × Tok × Tok) : Prop := c.1 = 0 ∨ 0 < n.fdiv (16 ^ (c.1 - 1))
noncomputable def nN (_ : Nat × Tok × Tok) (l : Ledger) : Ledger := l
theorem nP_le {n : Int} (h1 : n < 10 ^ 120) {c : Nat × Tok × Tok} (h : nP n c) : c.1 ≤ 100 := by
  rcases h with h | h
  · omega
  · rcases Nat.lt_or_ge 100 c.1 with hk | hk
    · exfalso
      have hp : (0 : Int) < 16 ^ (c.1 - 1) := Int.pow_pos (by decide)
      rw [Int.fdiv_eq_ediv_of_nonneg _ (Int.le_of_lt hp)] at h
      have h2 : (16 : Int) ^ (c.1 - 1) ≤ n := by
        rcases Int.lt_or_le n (16 ^ (c.1 - 1)) with hl | hl
        · rcases Int.lt_or_le n 0 with h3 | h3
          · have := Int.ediv_neg_of_neg_of_pos h3 hp
            omega
          · rw [Int.ediv_eq_zero_of_lt h3 hl] at h
            omega
        · exact hl
      have h3 : (16 : Int) ^ 100 ≤ 16 ^ (c.1 - 1) := by
        have := Nat.pow_le_pow_right (n := 16) (by decide) (show 100 ≤ c.1 - 1 by omega)
        exact_mod_cast this
      have h4 : (10 : Int) ^ 120 < 16 ^ 100 := by decide
      omega
    · exact hk
noncomputable def nμ (n : Int) (c : Nat × Tok × Tok) : Nat := (n.fdiv (16 ^ c.1)).toNat
theorem nM_nM (n : Int) (c c' : Nat × Tok × Tok) (m : Map) : nM n c (nM n c' m) = nM n c m := by
  funext y
  unfold nM
  by_cases h2 : y = Str.ofString "left" <;> by_cases h3 : y = Str.ofString "figures" <;> simp [h2, h3]
section
variable {prog : Program} {w : World} {A : Around} {E : Value → Shared → Prop} {s : Shared} {env : Env} {h₀ : Heap} {body : List Stmt} {Q : Flow → Shared → Prop} {m₁ : Map} {news : Ledger}
theorem num_it {L : Addr} {test : Expr} {pos : Pos} {T1 T2 : Tok} {n : Int}
    (F : Fr h₀ L s.heap (fun y => if y = Str.ofString "figures" then some (.str (Str.ofString "") T1) else if y = Str.ofString "left" then some (.int n T2) else m₁ y)) (N : News h₀ L s.heap news)
    (turn : ∀ k T1 T2 h tk, nP n (k, T1, T2) → Fr h₀ L h (nM n (k, T1, T2) m₁) → News h₀ L h news →
      wpAny (model prog w) A (isTrue test env (eval test env)) (fun b s₂ => if b = true then wpAny (model prog w) A (execs body env) (WhPost h₀ L s (nP n) (nμ n) (nM n) nN m₁ news Q (k, T1, T2)) E s₂ else Q .next s₂) E { s with heap := h, toks := tk })
    (hE : PassesOwn (model prog w) A env E) : wpAny (model prog w) A (exec (.While test body [] pos) env) Q E s := by
  have e : (fun y => if y = Str.ofString "figures" then some (.str (Str.ofString "") T1) else if y = Str.ofString "left" then some (.int n T2) else m₁ y) = nM n (0, T1, T2) m₁ := by
    funext y
    unfold nM
    by_cases h2 : y = Str.ofString "left"
    · subst h2
      rw [if_neg (by decide), if_pos rfl, if_pos rfl]
      simp
    · rw [if_neg h2, if_neg h2]
      rfl
  rw [e] at F
  refine while_st (nP n) (nμ n) (nM n) nN (0, T1, T2) F N (.inl rfl) (nM_nM _ _ _ _).symm rfl ?_ hE
  rintro ⟨k, T1', T2'⟩ h tk hP F₁ N₁
  rw [nM_nM] at F₁
  refine wpAny_mono (turn k T1' T2' h tk hP F₁ N₁) (fun b s₂ h₂ => ?_) fun _ _ e => e
  cases b with
  | false => exact h₂
  | true =>
    simp only [if_true] at h₂ ⊢
    refine wpAny_mono h₂ (fun f s₃ h₃ => ?_) fun _ _ e => e
    unfold WhPost at h₃ ⊢
    simp only [nM_nM]
    exact h₃
end
theorem num_end {h₀ h' : Heap} {L : Addr} {n : Int} {k : Nat} {T1' T2' : Tok} {m₁ : Map} {T1 T2 : Tok} {news : Ledger} {s : Shared} {tk : Nat} {Q : Flow → Shared → Prop} (h0 : 0 ≤ n) (hk : 0 < n.fdiv (16 ^ k))
    (F : Fr h₀ L h' (fun y => if y = Str.ofString "left" then some (.int ((n.fdiv (16 ^ k)).fdiv 16) T2) else if y = Str.ofString "figures" then some (.str (Txt.item HEXD ((n.fdiv (16 ^ k)).fmod 16) ++ hexL n k) T1) else nM n (k, T1', T2') m₁ y))
    (N : News h₀ L h' news) : WhPost h₀ L s (nP n) (nμ n) (nM n) nN m₁ news Q (k, T1', T2') .next { s with heap := h', toks := tk } := by
  refine wh_end (k + 1, T1, T2) F N (fun _ h => h) ?_ (.inr hk) ?_
  · funext y
    rw [hexL_div h0]
    unfold nM
    by_cases h2 : y = Str.ofString "left"
    · subst h2; rfl
    · by_cases h3 : y = Str.ofString "figures"
      · subst h3; rfl
      · simp only [h2, h3, if_false]
  · show (n.fdiv (16 ^ (k + 1))).toNat < (n.fdiv (16 ^ k)).toNat
    rw [← hexL_div h0, Int.fdiv_eq_ediv_of_nonneg (n.fdiv (16 ^ k)) (by decide : (0:Int) ≤ 16)]
    omega
/-- A number's text. -/
noncomputable def NumT (n : Int) (y : Str) : Prop := ((Str.ofString (toString n)).length ≤ 100 ∧ y = Str.ofString (toString n)) ∨ (100 < (Str.ofString (toString n)).length ∧ ∃ k, n.fdiv (16 ^ k) = 0 ∧ (k = 0 ∨ 0 < n.fdiv (16 ^ (k - 1))) ∧ y = Str.ofString "0x" ++ hexL n k)
section
local macro_rules | `(tactic| walk_at "pad") => `(tactic| skip)
local macro_rules | `(tactic| walk_at "call ref") => `(tactic| ((with_reducible show wpAny _ _ (call (Value.ref 307) _) _ _ _); refine one_use ?_; intro i' v' a' b' ta' tb' o' hv' l3' l4' l5' h' tk' F' N'))
theorem law_number_ok (w : World) (hlen0 : ∀ n : Int, 0 ≤ n → n < 10 ^ 120 → (Str.ofString (toString n)).length ≤ 1000) (news : Ledger) (S : Addr) (a b : Int) (t u : Tok) (o : Nat) (hS : ∀ p ∈ news, p.1 ≠ S) (h0 : 0 ≤ a) (hb : 0 ≤ b) (hb1 : b < 2147483647) :
    Fn w 328 [.ref S] ((S, SrcO a b t u o) :: news) 3 (fun ok => ∀ p n y a' b' ta tb o' t1 t2, 0 ≤ n → n < 10 ^ 120 → NumT n y → 0 ≤ a' → 0 ≤ b' → b' < 2147483647 → (∀ q ∈ (S, SrcO a' b' ta tb o') :: news, q.1 < p) → ok (.ref p) ((p, tupO [.int n t1, .str y t2]) :: (S, SrcO a' b' ta tb o') :: news)) := by
  refine' fn_of_body (binds := [(Str.ofString "source", .ref S)]) ?ho ?hcd ?hb ?hl ?hc ?hR ?body ?c1 ?c2 ?c3
  (case ho => k_is)
  (case hcd => k_is)
  (case hb => rfl)
  (case hl => rfl)
  (case hc => decide)
  (case hR => exact (fun _ _ h k p n y a' b' ta tb o' t1 t2 l1 l2 l3 l4 l5 l6 l7 => h _ _ (k p n y a' b' ta tb o' t1 t2 l1 l2 l3 l4 l5 l6 l7)))
  (case c1 => rfl)
  (case c2 => rfl)
  (case c3 => rfl)
  intro mean mg mb dp un gd outer A₀ base g L s Q B F X N T hd hu hret
  refine wpAny_execs_cons ?_
  repeat' ((fail_if_success (with_reducible show wpAny _ _ (execs (_ :: _) _) _ _ _)); first | walk1 | (dsimp only; (fail_if_success (with_reducible show wpAny _ _ (execs (_ :: _) _) _ _ _)); walk1))
  rename_i U h2 l6 i1 v a2 b2 ta2 tb2 o2 hv m3 m4 m5 h3 tk3 h4 F1 N1
  have hm := List.mem_of_getElem? hv
  have N2 : News _ _ _ ((S, SrcO a2 b2 ta2 tb2 o2) :: news) := news_of N1 (List.Sublist.subset (.cons₂ _ (.cons _ (.refl _))))
  clear N1
  obtain ⟨m, tm, rfl, hm1, hm2⟩ : ∃ m tm, v = Value.int m tm ∧ 1 ≤ m ∧ m ≤ 120 := by
    clear hv F1
    iterate 8 (rcases List.mem_cons.mp hm with e | hm; · exact ⟨_, _, e, by omega, by omega⟩)
    cases hm
  clear hm hv
  have hp0 : (0 : Int) < 10 ^ (m - 1).toNat := Int.pow_pos (by decide)
  have hp1 : (10 : Int) ^ (m - 1).toNat ≤ 10 ^ 119 := by
    have := Nat.pow_le_pow_right (n := 10) (by decide) (show (m - 1).toNat ≤ 119 by omega)
    exact_mod_cast this
  have hp2 : (0 : Int) < 10 ^ m.toNat := Int.pow_pos (by decide)
  have hp3 : (10 : Int) ^ m.toNat ≤ 10 ^ 120 := by
    have := Nat.pow_le_pow_right (n := 10) (by decide) (show m.toNat ≤ 120 by omega)
    exact_mod_cast this
  have hp4 : (10 : Int) ^ Int.toNat 6 = 1000000 := by decide
  (try dsimp only)
  refine execs_cutS (by assumption) (fun M' nw => ∃ (x : Int) (tx : Tok) (a b : Int) (ta tb : Tok) (o : Nat), 0 ≤ x ∧ x < 10 ^ 120 ∧ 0 ≤ a ∧ 0 ≤ b ∧ b < 2147483647 ∧ M' (Str.ofString "source") = some (.ref S) ∧ M' (Str.ofString "many") = some (.int m tm) ∧ M' (Str.ofString "number") = some (.int x tx) ∧ nw = (S, SrcO a b ta tb o) :: news) ?st1 ?_
  case st1 =>
    have hsp : m ≤ 9 ∨ 9 < m := by omega
    rcases hsp with c1 | c1
    all_goals
      repeat' ((fail_if_success (with_reducible show wpAny _ _ (exec (Stmt.For _ _ _ _ _) _) _ _ _)); (fail_if_success (with_reducible show wpAny _ _ (pyIter _) _ _ _)); (fail_if_success (with_reducible show wpAny _ _ (exec (Stmt.While _ _ _ _) _) _ _ _)); first | walk1 | (dsimp only; walk1))
      refine' ⟨rfl, _, _, _, _, rfl, ?F, ?N, _, _, _, _, _, _, _, ?x0, ?x1, ?g1, ?g2, ?g3, ?s1, ?s2, ?s3, rfl⟩
      case F => assumption
      case N => exact news_of (by assumption) (by walk_at "sub")
      case s1 => rfl
      case s2 => rfl
      case s3 => rfl
      case g1 => assumption
      case g2 => assumption
      case g3 => assumption
      case x0 => ((try simp only [if_true, if_false, Int.mul_one, Int.mul_zero, Int.add_zero]); first | omega | (split <;> (simp only [Int.mul_one, Int.mul_zero]; omega)))
      case x1 => ((try simp only [if_true, if_false, Int.mul_one, Int.mul_zero, Int.add_zero]); first | omega | (split <;> (simp only [Int.mul_one, Int.mul_zero]; omega)))
  rintro h5 tk5 M1 _ F5 N5 ⟨x, tx, a3, b3, ta3, tb3, o3, hx0, hx1, k1, k2, k3, q1, q2, q3, rfl⟩
  rw [upd3 q1 q2 q3] at F5
  refine execs_cutS (by assumption) (fun M' nw => ∃ (x : Int) (tx : Tok) (a b : Int) (ta tb : Tok) (o : Nat), 0 ≤ x ∧ x < 10 ^ 120 ∧ 0 ≤ a ∧ 0 ≤ b ∧ b < 2147483647 ∧ M' (Str.ofString "number") = some (.int x tx) ∧ nw = (S, SrcO a b ta tb o) :: news) ?st2 ?_
  case st2 =>
    have hsp : m < 110 ∨ 110 ≤ m := by omega
    rcases hsp with c1 | c1
    all_goals
      repeat' ((fail_if_success (with_reducible show wpAny _ _ (exec (Stmt.For _ _ _ _ _) _) _ _ _)); (fail_if_success (with_reducible show wpAny _ _ (pyIter _) _ _ _)); (fail_if_success (with_reducible show wpAny _ _ (exec (Stmt.While _ _ _ _) _) _ _ _)); first | walk1 | (dsimp only; walk1))
      have hm2 := List.mem_of_getElem? (l := [_, _, _, _]) (by assumption)
      obtain ⟨n, tn, e, hn0, hn1⟩ := num_pick (B := 10 ^ 120) hm2 (by decide) ⟨hx0, hx1⟩ ⟨hx0, hx1⟩ (by (try simp only [if_true, if_false, Int.mul_one, Int.mul_zero, Int.add_zero]); first | omega | (split <;> (simp only [Int.mul_one, Int.mul_zero]; omega)))
      clear hm2
      subst e
      repeat' ((fail_if_success (with_reducible show wpAny _ _ (exec (Stmt.For _ _ _ _ _) _) _ _ _)); (fail_if_success (with_reducible show wpAny _ _ (pyIter _) _ _ _)); (fail_if_success (with_reducible show wpAny _ _ (exec (Stmt.While _ _ _ _) _) _ _ _)); first | walk1 | (dsimp only; walk1))
      refine' ⟨rfl, _, _, _, _, rfl, ?F, ?N, _, _, _, _, _, _, _, hn0, hn1, ?g1, ?g2, ?g3, ?s3, rfl⟩
      case F => assumption
      case N => exact news_of (by assumption) (by walk_at "sub")
      case s3 => rfl
      case g1 => assumption
      case g2 => assumption
      case g3 => assumption
  rintro h6 tk6 M2 _ F6 N6 ⟨n, tn, a4, b4, ta4, tb4, o4, hn0, hn1, k4, k5, k6, q4, rfl⟩
  rw [upd_opt q4] at F6
  have hln := hlen0 n hn0 hn1
  repeat' ((fail_if_success (with_reducible show wpAny _ _ (exec (Stmt.For _ _ _ _ _) _) _ _ _)); (fail_if_success (with_reducible show wpAny _ _ (pyIter _) _ _ _)); (fail_if_success (with_reducible show wpAny _ _ (exec (Stmt.While _ _ _ _) _) _ _ _)); first | walk1 | (dsimp only; walk1))
  refine num_it (news := (S, SrcO _ _ _ _ _) :: news) (by assumption) (by first | assumption | exact news_of (by assumption) (List.Sublist.subset (.cons _ (.refl _)))) ?_ PassesOwn.never
  intro k T1 T2 h tk hP F₁ N₁
  have hk := nP_le hn1 hP
  have hl : (hexL n k).length ≤ 100 := by rw [hexL_len]; exact hk
  have hnn : 0 ≤ n.fdiv (16 ^ k) := by rw [Int.fdiv_eq_ediv_of_nonneg _ (Int.pow_nonneg (by decide))]; exact Int.ediv_nonneg hn0 (Int.pow_nonneg (by decide))
  by_cases hpos : 0 < n.fdiv (16 ^ k)
  · by_cases hlen : (Str.ofString (toString n)).length ≤ 100
    · repeat' ((fail_if_success (with_reducible show wpAny _ _ (exec (Stmt.For _ _ _ _ _) _) _ _ _)); (fail_if_success (with_reducible show wpAny _ _ (pyIter _) _ _ _)); (fail_if_success (with_reducible show wpAny _ _ (exec (Stmt.While _ _ _ _) _) _ _ _)); first | walk1 | (dsimp only; walk1))
      refine' hret _ n _ _ _ _ _ _ _ _ hn0 hn1 ?hR ?g1 ?g2 ?g3 ?hl _ _ _ ?F ?N
      case N => first | assumption | exact news_of (by assumption) (List.Sublist.subset (.cons₂ _ (.cons _ (.refl _))))
      case F => assumption
      case hR => exact Or.inl ⟨hlen, rfl⟩
      case hl => exact ktn_ltOf (l := _ :: _) (by assumption)
      case g1 => assumption
      case g2 => assumption
      case g3 => assumption
    · repeat' ((fail_if_success (with_reducible show wpAny _ _ (exec (Stmt.For _ _ _ _ _) _) _ _ _)); (fail_if_success (with_reducible show wpAny _ _ (pyIter _) _ _ _)); (fail_if_success (with_reducible show wpAny _ _ (exec (Stmt.While _ _ _ _) _) _ _ _)); first | walk1 | (dsimp only; walk1))
      exact num_end hn0 hpos (by assumption) (by assumption)
  · by_cases hlen : (Str.ofString (toString n)).length ≤ 100
    · repeat' ((fail_if_success (with_reducible show wpAny _ _ (exec (Stmt.For _ _ _ _ _) _) _ _ _)); (fail_if_success (with_reducible show wpAny _ _ (pyIter _) _ _ _)); (fail_if_success (with_reducible show wpAny _ _ (exec (Stmt.While _ _ _ _) _) _ _ _)); first | walk1 | (dsimp only; walk1))
      refine' hret _ n _ _ _ _ _ _ _ _ hn0 hn1 ?hR ?g1 ?g2 ?g3 ?hl _ _ _ ?F ?N
      case N => first | assumption | exact news_of (by assumption) (List.Sublist.subset (.cons₂ _ (.cons _ (.refl _))))
      case F => assumption
      case hR => exact Or.inl ⟨hlen, rfl⟩
      case hl => exact ktn_ltOf (l := _ :: _) (by assumption)
      case g1 => assumption
      case g2 => assumption
      case g3 => assumption
    · repeat' ((fail_if_success (with_reducible show wpAny _ _ (exec (Stmt.For _ _ _ _ _) _) _ _ _)); (fail_if_success (with_reducible show wpAny _ _ (pyIter _) _ _ _)); (fail_if_success (with_reducible show wpAny _ _ (exec (Stmt.While _ _ _ _) _) _ _ _)); first | walk1 | (dsimp only; walk1))
      refine' hret _ n _ _ _ _ _ _ _ _ hn0 hn1 ?hR ?g1 ?g2 ?g3 ?hl _ _ _ ?F ?N
      case N => first | assumption | exact news_of (by assumption) (List.Sublist.subset (.cons₂ _ (.cons _ (.refl _))))
      case F => assumption
      case hR => exact Or.inr ⟨by omega, k, by omega, hP, rfl⟩
      case hl => exact ktn_ltOf (l := _ :: _) (by assumption)
      case g1 => assumption
      case g2 => assumption
      case g3 => assumption
end
theorem num_len {n : Int} (h0 : 0 ≤ n) (h1 : n < 10 ^ 120) : (Str.ofString (toString n)).length ≤ 121 := by
  rw [PySem.ofString_length]
  refine int_text_length_le10 (k := 120) (by decide) ?_
  have : (n.natAbs : Int) < 10 ^ 120 := by omega
  exact_mod_cast this
theorem law_number (w : World) (news : Ledger) (S : Addr) (a b : Int) (t u : Tok) (o : Nat) (hS : ∀ p ∈ news, p.1 ≠ S) (h0 : 0 ≤ a) (hb : 0 ≤ b) (hb1 : b < 2147483647) :
    Fn w 328 [.ref S] ((S, SrcO a b t u o) :: news) 3 (fun ok => ∀ p n y a' b' ta tb o' t1 t2, 0 ≤ n → n < 10 ^ 120 → NumT n y → 0 ≤ a' → 0 ≤ b' → b' < 2147483647 → (∀ q ∈ (S, SrcO a' b' ta tb o') :: news, q.1 < p) → ok (.ref p) ((p, tupO [.int n t1, .str y t2]) :: (S, SrcO a' b' ta tb o') :: news)) :=
  law_number_ok w (fun n h0 h1 => Nat.le_trans (num_len h0 h1) (by decide)) news S a b t u o hS h0 hb hb1
theorem fn_of_bodyD {w : World} {name qual : Str} {params : Arguments} {body : List Stmt} {scope : Scope} {dV kV doc pm cdv ct oc : Value} {an od : Option Addr} {osl : Array (Option Value)} {f : Addr} {vs : List Value} {binds : List (Str × Value)} {news : Ledger} {D : Nat} {R : Ok → Prop}
    (ho : (Mine.fr.heap_1 w.params).lookup f = some ⟨oc, od, .func (fnOf name qual params body scope dV kV doc pm an cdv ct), osl⟩) (hcd : codeIn (Mine.fr.heap_1 w.params) cdv qual = true)
    (hbind : ∀ s : Shared, (Mine.fr.heap_1 w.params).In s.heap → BindsTo s (fnOf name qual params body scope dV kV doc pm an cdv ct) ⟨vs, []⟩ binds) (hloc : (binds.all fun x => decide (scope.names.lookup x.1 = some .local)) = true)
    (hcell : ∀ x ∈ scope.names, x.2 ≠ .cell)
    (hR : ∀ ok ok' : Ok, (∀ v n, ok v n → ok' v n) → R ok → R ok')
    (h : Bd w qual scope f cdv body (fun y => binds.reverse.lookup y) news D R)
    (hco : scope.isCoroutine = false := by rfl) (hgen : scope.isGenerator = false := by rfl) (hk : scope.kind = .function := by rfl)  : Fn w f vs news (D + 1) R := by
  intro mean mg mb dp un gd cn cs a ccd cl outer A₀ base h₀ L m s Q B F X N T hks hd hu hret
  refine wpAny_call ?_
  refine code_def B F X N T rfl rfl hks ho hcd (by show dp < recursionLimit; omega) (hbind s (X.keeps F.keep)) (locs hloc) ?_ hco hgen hk hcell
  intro g L' h₁ FG F' N' B' X' T'
  refine wpAny_mono (h mean mg mb (dp + 1) (un + 3) gd (envX cn cs L a ccd cl :: outer) _ base g L' _ (fun fl s' => LeaveK h₀ L m g (fun r s' => match r with | .ok (.ret v) => Q v s' | .ok _ => False | .error e => NoE e s') (match fl with | .ret v => v | _ => .none) s') B' F' X' N' T' (by omega) (by omega) ?_) (fun _ _ x => x) (fun _ _ x => x.elim)
  refine hR _ _ ?_ hret
  intro v n hok h' tk' m' F2 N2
  exact leaveK_ F2 N2 fun F3 N3 => hok h' tk' F3 N3
section
/-- As Fn, of the code itself. -/
noncomputable def FnK (w : World) (f : Addr) (vs : List Value) (news : Ledger) (D : Nat) (R : Ok → Prop) : Prop :=
  ∀ (mean : ExcName → Option Value) (mg mb : Str → Option Value) (dp un : Nat) (gd : Option (List Code)) (cn : Str) (cs : Scope) (a : Addr) (ccd : Value) (cl : List (Str × Addr)) (outer : List Env) (A₀ : Around) (base h₀ : Heap) (L : Addr) (m : Str → Option Value) (s : Shared) (RR : Result → Shared → Prop),
    Below A₀ base outer h₀ → Fr h₀ L s.heap m → (Mine.fr.heap_1 w.params).In h₀ → News h₀ L s.heap news → Top Mine.view LO mean mg mb h₀ → cs.kind = .function →
    dp + D < recursionLimit → un + 8 * D < cLine →
    R (fun v news' => ∀ h' tk', Fr h₀ L h' m → News h₀ L h' news' → RR (.ok (.ret v)) { s with heap := h', toks := tk' }) →
    codeAny (model PRG w) (ktrTop dp un gd cn cs L a ccd cl outer) (.call (.ref f) ⟨vs, []⟩) RR s
theorem fnK_of_body {w : World} {name qual : Str} {params : Arguments} {body : List Stmt} {scope : Scope} {dV kV doc pm cdv ct oc : Value} {an od : Option Addr} {osl : Array (Option Value)} {f : Addr} {vs : List Value} {binds : List (Str × Value)} {news : Ledger} {D : Nat} {R : Ok → Prop}
    (ho : (Mine.fr.heap_1 w.params).lookup f = some ⟨oc, od, .func (fnOf name qual params body scope dV kV doc pm an cdv ct), osl⟩) (hcd : codeIn (Mine.fr.heap_1 w.params) cdv qual = true)
    (hbind : bindArgs (fnOf name qual params body scope dV kV doc pm an cdv ct) ⟨vs, []⟩ = pure binds) (hloc : (binds.all fun x => decide (scope.names.lookup x.1 = some .local)) = true)
    (hcell : ∀ x ∈ scope.names, x.2 ≠ .cell)
    (hR : ∀ ok ok' : Ok, (∀ v n, ok v n → ok' v n) → R ok → R ok')
    (h : Bd w qual scope f cdv body (fun y => binds.reverse.lookup y) news D R)
    (hco : scope.isCoroutine = false := by rfl) (hgen : scope.isGenerator = false := by rfl) (hk : scope.kind = .function := by rfl)
 : FnK w f vs news (D + 1) R := by
  intro mean mg mb dp un gd cn cs a ccd cl outer A₀ base h₀ L m s RR B F X N T hks hd hu hret
  refine code_def B F X N T rfl rfl hks ho hcd (by show dp < recursionLimit; omega) (BindsTo.of_eq hbind) (locs hloc) ?_ hco hgen hk hcell
  intro g L' h₁ FG F' N' B' X' T'
  refine wpAny_mono (h mean mg mb (dp + 1) (un + 3) gd (envX cn cs L a ccd cl :: outer) _ base g L' _ (fun fl s' => LeaveK h₀ L m g RR (match fl with | .ret v => v | _ => .none) s') B' F' X' N' T' (by omega) (by omega) ?_) (fun _ _ x => x) (fun _ _ x => x.elim)
  refine hR _ _ ?_ hret
  intro v n hok h' tk' m' F2 N2
  exact leaveK_ F2 N2 fun F3 N3 => hok h' tk' F3 N3
/-- A body that falls off its end. -/
noncomputable def BdN (w : World) (qual : Str) (scope : Scope) (f : Addr) (cdv : Value) (body : List Stmt) (m : Str → Option Value) (news : Ledger) (D : Nat) (R : Ok → Prop) : Prop :=
  ∀ (mean : ExcName → Option Value) (mg mb : Str → Option Value) (dp un : Nat) (gd : Option (List Code)) (outer : List Env) (A₀ : Around) (base g : Heap) (L : Addr) (s : Shared) (Q : Flow → Shared → Prop),
    Below A₀ base outer g → Fr g L s.heap m → (Mine.fr.heap_1 w.params).In g → News g L s.heap news → Top Mine.view LO mean mg mb g →
    dp + D < recursionLimit → un + 8 * D < cLine →
    R (fun v news' => v = .none → ∀ h' tk' m', Fr g L h' m' → News g L h' news' → Q .next { s with heap := h', toks := tk' }) →
    wpAny (model PRG w) (ktrTop dp un gd qual scope L f cdv [] outer) (execs body (envOf qual scope L f cdv)) Q NoE s
theorem fnK_of_bodyN {w : World} {name qual : Str} {params : Arguments} {body : List Stmt} {scope : Scope} {dV kV doc pm cdv ct oc : Value} {an od : Option Addr} {osl : Array (Option Value)} {f : Addr} {vs : List Value} {binds : List (Str × Value)} {news : Ledger} {D : Nat} {R : Ok → Prop}
    (ho : (Mine.fr.heap_1 w.params).lookup f = some ⟨oc, od, .func (fnOf name qual params body scope dV kV doc pm an cdv ct), osl⟩) (hcd : codeIn (Mine.fr.heap_1 w.params) cdv qual = true)
    (hbind : bindArgs (fnOf name qual params body scope dV kV doc pm an cdv ct) ⟨vs, []⟩ = pure binds) (hloc : (binds.all fun x => decide (scope.names.lookup x.1 = some .local)) = true)
    (hcell : ∀ x ∈ scope.names, x.2 ≠ .cell)
    (hR : ∀ ok ok' : Ok, (∀ v n, ok v n → ok' v n) → R ok → R ok')
    (h : BdN w qual scope f cdv body (fun y => binds.reverse.lookup y) news D R)
    (hco : scope.isCoroutine = false := by rfl) (hgen : scope.isGenerator = false := by rfl) (hk : scope.kind = .function := by rfl) : FnK w f vs news (D + 1) R := by
  intro mean mg mb dp un gd cn cs a ccd cl outer A₀ base h₀ L m s RR B F X N T hks hd hu hret
  refine code_def B F X N T rfl rfl hks ho hcd (by show dp < recursionLimit; omega) (BindsTo.of_eq hbind) (locs hloc) ?_ hco hgen hk hcell
  intro g L' h₁ FG F' N' B' X' T'
  refine wpAny_mono (h mean mg mb (dp + 1) (un + 3) gd (envX cn cs L a ccd cl :: outer) _ base g L' _ (fun fl s' => LeaveK h₀ L m g RR (match fl with | .ret v => v | _ => .none) s') B' F' X' N' T' (by omega) (by omega) ?_) (fun _ _ x => x) (fun _ _ x => x.elim)
  refine hR _ _ ?_ hret
  intro v n hok hv h' tk' m' F2 N2
  subst hv
  exact leaveK_ F2 N2 fun F3 N3 => hok h' tk' F3 N3
/-- The entries of the dict of a Words. -/
noncomputable def wdE (w : World) (RL : Addr) (i : Int) (t1 t2 t3 t4 u : Tok) : List DictEntry :=
  [⟨PyData.keyHash w.params (Str.ofString "rows"), .str (Str.ofString "rows") t1, .ref RL⟩, ⟨PyData.keyHash w.params (Str.ofString "at"), .str (Str.ofString "at") t2, .int i u⟩, ⟨PyData.keyHash w.params (Str.ofString "expr_reader"), .str (Str.ofString "expr_reader") t3, .none⟩, ⟨PyData.keyHash w.params (Str.ofString "body_reader"), .str (Str.ofString "body_reader") t4, .none⟩]
local macro_rules | `(tactic| walk_at "call type:list") => `(tactic| (refine list_copyK (by assumption) (by assumption) (News.isList (by assumption) (by exact .tail _ (.tail _ (by assumption)))) ?_ (by rw [sizeLine_eq]; omega); intro D' c' h' F' N' l1; (try k_lt l1); (try k_sweep)))
theorem words_init (w : World) (news : Ledger) (x dx R0 : Addr) (items : Array Value) (o : Nat) (hz : items.size ≤ 20) (hm : (R0, listOf items o) ∈ news) (h1 : x ≠ dx) (h2 : ∀ p ∈ news, p.1 < dx) (h3 : dx < x) :
    FnK w 242 [.ref x, .ref R0] ((x, instObj 282 dx) :: (dx, dictOf [] 0) :: news) 2 (fun ok => ∀ RL c t1 t2 t3 t4 u, x < RL → ok .none ((RL, listOf items c) :: (x, instObj 282 dx) :: (dx, dictOf (wdE w RL 0 t1 t2 t3 t4 u) 4) :: news)) := by
  refine' fnK_of_bodyN (binds := [(Str.ofString "self", .ref x), (Str.ofString "rows", .ref R0)]) ?ho ?hcd ?hb ?hl ?hc ?hR ?body ?c1 ?c2 ?c3
  (case ho => k_is)
  (case hcd => k_is)
  (case hb => rfl)
  (case hl => rfl)
  (case hc => decide)
  (case hR => exact fun _ _ h k RL c t1 t2 t3 t4 u l => h _ _ (k RL c t1 t2 t3 t4 u l))
  (case c1 => rfl)
  (case c2 => rfl)
  (case c3 => rfl)
  intro mean mg mb dp un gd outer A₀ base g L s Q B F X N T hd hu hret
  repeat' ((fail_if_success (with_reducible show wpAny _ _ (exec (Stmt.For _ _ _ _ _) _) _ _ _)); (fail_if_success (with_reducible show wpAny _ _ (pyIter _) _ _ _)); (fail_if_success (with_reducible show wpAny _ _ (exec (Stmt.While _ _ _ _) _) _ _ _)); first | walk1 | (dsimp only; walk1))
  exact hret _ _ _ _ _ _ _ (And.left (by assumption)) rfl _ _ _ (by assumption) (by assumption)
theorem words_new (w : World) (news : Ledger) (R0 : Addr) (items : Array Value) (o : Nat) (hz : items.size ≤ 20) (hm : (R0, listOf items o) ∈ news) :
    Fn w 282 [.ref R0] news 4 (fun ok => ∀ RL x dx c t1 t2 t3 t4 u, (∀ p ∈ news, p.1 < dx) → dx < x → x < RL → ok (.ref x) ((RL, listOf items c) :: (x, instObj 282 dx) :: (dx, dictOf (wdE w RL 0 t1 t2 t3 t4 u) 4) :: news)) := by
  intro mean mg mb dp un gd cn cs a ccd cl outer A₀ base h₀ L m s Q B F X N T hks hd hu hret
  refine call_cls F X N (by k_is) (by k_is) (by k_is) ?_
  intro x dx h' F' N' l1 l2
  refine codeAny_mono (words_init w news x dx R0 items o hz hm (Nat.ne_of_gt l2) l1 l2 mean mg mb (dp + 1) (un + 1) gd cn cs a ccd cl outer A₀ base h₀ L m _ (InitBack x fun r s' => match r with | .ok (.ret v) => Q v s' | .ok _ => False | .error e => NoE e s') B F' X N' T hks (by omega) (by omega) ?_) (fun _ _ z => z)
  intro RL c t1 t2 t3 t4 u l3 h'' tk'' F'' N''
  exact ⟨rfl, hret RL x dx c t1 t2 t3 t4 u l1 l2 l3 _ _ F'' N''⟩
end
section
theorem bindsD {w : World} {s : Shared} {fd : FuncData} {args : Args} {binds : List (Str × Value)} {T : Addr} {o : Obj} {items : Array Value} {n : Nat} {k : Option (Array Value) → Sem (List (Str × Value))} (X : (Mine.fr.heap_1 w.params).In s.heap) (hd : fd.defaults = .ref T) (ho : (Mine.fr.heap_1 w.params).lookup T = some o) (hs : o.data = .seq items n)
    (h₁ : bindArgs fd args = seqItems? fd.defaults >>= k) (h₂ : k (some items) = pure binds) : BindsTo s fd args binds := binds_K X hd ho hs h₁ h₂
theorem item_lk {prog : Program} {w : World} {A : Around} {E : Value → Shared → Prop} {s : Shared} {h₀ : Heap} {L T : Addr} {news : Ledger} {k i : Int} {u : Tok} {n : Nat} {Q : Value → Shared → Prop} {value slice : Expr} {vs : List Value} {x : Value} (N : News h₀ L s.heap news) (hm : (T, listOf vs.toArray n) ∈ news) (hk : k = i) (h0 : 0 ≤ i) (hfit : i < 2 ^ 63) (hx : vs[i.toNat]? = some x) (h : Q x s)
    (hs : subscripted slice false (.ref T) (.int k u) = operate [.ref T, .int k u] (getItem (.ref T) (.int k u)) := by with_unfolding_all rfl) (hg : ∀ r, letTemporaryGo value (.ref T) r = pure () := by intro _; with_unfolding_all rfl) :
    wpAny (model prog w) A (subscriptTail value slice (.ref T) (.int k u)) Q E s := by
  subst hk
  exact item_l N hm h0 hfit hx h hs hg
local macro_rules | `(tactic| walk_at "call builtin:len") => `(tactic| (k_dflt (refine len_l (by assumption) (by exact .head _) (by omega) ?_)))
local macro_rules | `(tactic| walk_at "subscriptTail Name Call ref int") => `(tactic| ((with_reducible show wpAny _ _ (subscriptTail _ _ (Value.ref _) (Value.int _ _)) _ _ _); k_dflt (refine item_lk (by assumption) (by exact .head _) ?hk (by assumption) (by omega) (by assumption) ?_); (case hk => first | omega | (split <;> omega) | (simp only [Int.add_zero]; omega))))
theorem words_peek (w : World) (news : Ledger) (x dx RL : Addr) (vs : List Value) (c : Nat) (i : Int) (v : Value) (t1 t2 t3 t4 u : Tok) (hz : vs.length ≤ 20) (h0 : 0 ≤ i) (hv : vs[i.toNat]? = some v) 
 :
    Fn w 250 [.ref x] ((RL, listOf vs.toArray c) :: (x, instObj 282 dx) :: (dx, dictOf (wdE w RL i t1 t2 t3 t4 u) 4) :: news) 1 (fun ok => ok v ((RL, listOf vs.toArray c) :: (x, instObj 282 dx) :: (dx, dictOf (wdE w RL i t1 t2 t3 t4 u) 4) :: news)) := by
  refine' fn_of_bodyD (binds := [(Str.ofString "self", .ref x), (Str.ofString "ahead", .int 0 660)]) ?ho ?hcd ?hb ?hl ?hc ?hR ?body ?c1 ?c2 ?c3
  (case ho => k_is)
  (case hcd => k_is)
  (case hb => intro s X; exact bindsD X rfl (by k_is) rfl rfl rfl)
  (case hl => rfl)
  (case hc => decide)
  (case hR => exact fun _ _ h k => h _ _ k)
  (case c1 => rfl)
  (case c2 => rfl)
  (case c3 => rfl)
  intro mean mg mb dp un gd outer A₀ base g L s Q B F X N T hd hu hret
  unfold wdE at N
  have hil : i < vs.length := by
    rcases Int.lt_or_le i vs.length with h | h
    · exact h
    · rw [List.getElem?_eq_none (by omega)] at hv; cases hv
  have hi0 : i + 0 ≤ (vs.length : Int) - 1 := by omega
  repeat' ((fail_if_success (with_reducible show wpAny _ _ (exec (Stmt.For _ _ _ _ _) _) _ _ _)); (fail_if_success (with_reducible show wpAny _ _ (pyIter _) _ _ _)); (fail_if_success (with_reducible show wpAny _ _ (exec (Stmt.While _ _ _ _) _) _ _ _)); first | walk1 | (dsimp only; walk1))
  exact hret _ _ _ (by assumption) (by assumption)
theorem fn_on {w : World} {f : Addr} {vs : List Value} {news : Ledger} {D : Nat} {R : Ok → Prop} (h : Fn w f vs news D R) : Fn w f vs news D R := h
local macro_rules | `(tactic| walk_at "call ref") => `(tactic| ((with_reducible show wpAny _ _ (call (Value.ref 250) _) _ _ _); refine fn_useA (fn_on (by assumption)) ?_; intro h' tk' F' N'))
local macro_rules | `(tactic| walk_at "subscriptTail Name Constant ref int") => `(tactic| ((with_reducible show wpAny _ _ (subscriptTail _ _ (Value.ref _) (Value.int _ _)) _ _ _); k_dflt (refine item_tupleL (News.isTup (by assumption) (by first | assumption | exact .tail _ (.tail _ (.tail _ (by assumption))))) (by decide) (by decide) rfl rfl ?_)))
local macro_rules | `(tactic| k_all) => `(tactic| with_reducible assumption)
namespace Ep_words_take
noncomputable def P (w : World) (news : Ledger) (x : Addr) (dx : Addr) (RL : Addr) (vs : List Value) (c : Nat) (i : Int) (a : Addr) (k : Str) (tk0 : Tok) (v1 : Value) (v2 : Value) (v3 : Value) (t1 : Tok) (t2 : Tok) (t3 : Tok) (t4 : Tok) (u : Tok) : Prop := ∀ (hz : vs.length ≤ 20) (h0 : 0 ≤ i) (hv : vs[i.toNat]? = some (.ref a)) (hx1 : x ≠ dx) (hx3 : RL ≠ dx) (hn : ∀ p ∈ news, p.1 ≠ dx) (ha : (a, tupO [.str k tk0, v1, v2, v3]) ∈ news) (hk : Eqs k (Str.ofString "end") false), Fn w 257 [.ref x] ((RL, listOf vs.toArray c) :: (x, instObj 282 dx) :: (dx, dictOf (wdE w RL i t1 t2 t3 t4 u) 4) :: news) 2 (fun ok => ∀ u', ok (.ref a) ((RL, listOf vs.toArray c) :: (x, instObj 282 dx) :: (dx, dictOf (wdE w RL (i + 1) t1 t2 t3 t4 u') 4) :: news))
theorem ne : Nonempty (World × Ledger × Addr × Addr × Addr × (List Value) × Nat × Int × Addr × Str × Tok × Value × Value × Value × Tok × Tok × Tok × Tok × Tok) := ⟨(wld, default, default, default, default, default, default, default, default, default, default, default, default, default, default, default, default, default, default)⟩
noncomputable def d : World × Ledger × Addr × Addr × Addr × (List Value) × Nat × Int × Addr × Str × Tok × Value × Value × Value × Tok × Tok × Tok × Tok × Tok := cex ne fun d => P d.1 d.2.1 d.2.2.1 d.2.2.2.1 d.2.2.2.2.1 d.2.2.2.2.2.1 d.2.2.2.2.2.2.1 d.2.2.2.2.2.2.2.1 d.2.2.2.2.2.2.2.2.1 d.2.2.2.2.2.2.2.2.2.1 d.2.2.2.2.2.2.2.2.2.2.1 d.2.2.2.2.2.2.2.2.2.2.2.1 d.2.2.2.2.2.2.2.2.2.2.2.2.1 d.2.2.2.2.2.2.2.2.2.2.2.2.2.1 d.2.2.2.2.2.2.2.2.2.2.2.2.2.2.1 d.2.2.2.2.2.2.2.2.2.2.2.2.2.2.2.1 d.2.2.2.2.2.2.2.2.2.2.2.2.2.2.2.2.1 d.2.2.2.2.2.2.2.2.2.2.2.2.2.2.2.2.2.1 d.2.2.2.2.2.2.2.2.2.2.2.2.2.2.2.2.2.2
noncomputable def w : World := d.1
noncomputable def news : Ledger := d.2.1
noncomputable def x : Addr := d.2.2.1
noncomputable def dx : Addr := d.2.2.2.1
noncomputable def RL : Addr := d.2.2.2.2.1
noncomputable def vs : List Value := d.2.2.2.2.2.1
noncomputable def c : Nat := d.2.2.2.2.2.2.1
noncomputable def i : Int := d.2.2.2.2.2.2.2.1
noncomputable def a : Addr := d.2.2.2.2.2.2.2.2.1
noncomputable def k : Str := d.2.2.2.2.2.2.2.2.2.1
noncomputable def tk0 : Tok := d.2.2.2.2.2.2.2.2.2.2.1
noncomputable def v1 : Value := d.2.2.2.2.2.2.2.2.2.2.2.1
noncomputable def v2 : Value := d.2.2.2.2.2.2.2.2.2.2.2.2.1
noncomputable def v3 : Value := d.2.2.2.2.2.2.2.2.2.2.2.2.2.1
noncomputable def t1 : Tok := d.2.2.2.2.2.2.2.2.2.2.2.2.2.2.1
noncomputable def t2 : Tok := d.2.2.2.2.2.2.2.2.2.2.2.2.2.2.2.1
noncomputable def t3 : Tok := d.2.2.2.2.2.2.2.2.2.2.2.2.2.2.2.2.1
noncomputable def t4 : Tok := d.2.2.2.2.2.2.2.2.2.2.2.2.2.2.2.2.2.1
noncomputable def u : Tok := d.2.2.2.2.2.2.2.2.2.2.2.2.2.2.2.2.2.2
theorem main (hz : vs.length ≤ 20) (h0 : 0 ≤ i) (hv : vs[i.toNat]? = some (.ref a)) (hx1 : x ≠ dx) (hx3 : RL ≠ dx) (hn : ∀ p ∈ news, p.1 ≠ dx) (ha : (a, tupO [.str k tk0, v1, v2, v3]) ∈ news) (hk : Eqs k (Str.ofString "end") false) : Fn w 257 [.ref x] ((RL, listOf vs.toArray c) :: (x, instObj 282 dx) :: (dx, dictOf (wdE w RL i t1 t2 t3 t4 u) 4) :: news) 2 (fun ok => ∀ u', ok (.ref a) ((RL, listOf vs.toArray c) :: (x, instObj 282 dx) :: (dx, dictOf (wdE w RL (i + 1) t1 t2 t3 t4 u') 4) :: news)) := by
  refine' fn_of_body (binds := [(Str.ofString "self", .ref x)]) ?ho ?hcd ?hb ?hl ?hc ?hR ?body ?c1 ?c2 ?c3
  (case ho => k_is)
  (case hcd => k_is)
  (case hb => rfl)
  (case hl => rfl)
  (case hc => decide)
  (case hR => exact (fun _ _ h k u => h _ _ (k u)))
  (case c1 => rfl)
  (case c2 => rfl)
  (case c3 => rfl)
  refine bd_eps ?_
  intro B F X N T hd hu hret
  unfold wdE at N
  have hp := words_peek w news x dx RL vs c i (.ref a) t1 t2 t3 t4 u hz h0 hv
  unfold wdE at hp
  repeat' ((fail_if_success (with_reducible show wpAny _ _ (exec (Stmt.For _ _ _ _ _) _) _ _ _)); (fail_if_success (with_reducible show wpAny _ _ (pyIter _) _ _ _)); (fail_if_success (with_reducible show wpAny _ _ (exec (Stmt.While _ _ _ _) _) _ _ _)); first | walk1 | (dsimp only; walk1))
  exact hret _ _ _ _ (by assumption) (by assumption)
end Ep_words_take
theorem words_take (w : World) (news : Ledger) (x dx RL : Addr) (vs : List Value) (c : Nat) (i : Int) (a : Addr) (k : Str) (tk0 : Tok) (v1 v2 v3 : Value) (t1 t2 t3 t4 u : Tok) (hz : vs.length ≤ 20) (h0 : 0 ≤ i) (hv : vs[i.toNat]? = some (.ref a)) (hx1 : x ≠ dx) (hx3 : RL ≠ dx) (hn : ∀ p ∈ news, p.1 ≠ dx) (ha : (a, tupO [.str k tk0, v1, v2, v3]) ∈ news) (hk : Eqs k (Str.ofString "end") false) : Fn w 257 [.ref x] ((RL, listOf vs.toArray c) :: (x, instObj 282 dx) :: (dx, dictOf (wdE w RL i t1 t2 t3 t4 u) 4) :: news) 2 (fun ok => ∀ u', ok (.ref a) ((RL, listOf vs.toArray c) :: (x, instObj 282 dx) :: (dx, dictOf (wdE w RL (i + 1) t1 t2 t3 t4 u') 4) :: news)) :=
  (cex_all (ne := Ep_words_take.ne) (P := fun d : World × Ledger × Addr × Addr × Addr × (List Value) × Nat × Int × Addr × Str × Tok × Value × Value × Value × Tok × Tok × Tok × Tok × Tok => Ep_words_take.P d.1 d.2.1 d.2.2.1 d.2.2.2.1 d.2.2.2.2.1 d.2.2.2.2.2.1 d.2.2.2.2.2.2.1 d.2.2.2.2.2.2.2.1 d.2.2.2.2.2.2.2.2.1 d.2.2.2.2.2.2.2.2.2.1 d.2.2.2.2.2.2.2.2.2.2.1 d.2.2.2.2.2.2.2.2.2.2.2.1 d.2.2.2.2.2.2.2.2.2.2.2.2.1 d.2.2.2.2.2.2.2.2.2.2.2.2.2.1 d.2.2.2.2.2.2.2.2.2.2.2.2.2.2.1 d.2.2.2.2.2.2.2.2.2.2.2.2.2.2.2.1 d.2.2.2.2.2.2.2.2.2.2.2.2.2.2.2.2.1 d.2.2.2.2.2.2.2.2.2.2.2.2.2.2.2.2.2.1 d.2.2.2.2.2.2.2.2.2.2.2.2.2.2.2.2.2.2) (fun hz h0 hv hx1 hx3 hn ha hk => Ep_words_take.main hz h0 hv hx1 hx3 hn ha hk) (w, news, x, dx, RL, vs, c, i, a, k, tk0, v1, v2, v3, t1, t2, t3, t4, u)) hz h0 hv hx1 hx3 hn ha hk
namespace Ep_words_name
noncomputable def P (w : World) (news : Ledger) (x : Addr) (dx : Addr) (RL : Addr) (vs : List Value) (c : Nat) (i : Int) (a : Addr) (y : Str) (b : Int) (tk0 : Tok) (tk1 : Tok) (tk2 : Tok) (v3 : Value) (t1 : Tok) (t2 : Tok) (t3 : Tok) (t4 : Tok) (u : Tok) : Prop := ∀ (hz : vs.length ≤ 20) (h0 : 0 ≤ i) (hv : vs[i.toNat]? = some (.ref a)) (hx1 : x ≠ dx) (hx3 : RL ≠ dx) (hn : ∀ p ∈ news, p.1 ≠ dx) (ha : (a, tupO [.str (Str.ofString "name") tk0, .str y tk1, .int b tk2, v3]) ∈ news) (hk : Eqs (Str.ofString "name") (Str.ofString "name") true), Fn w 279 [.ref x] ((RL, listOf vs.toArray c) :: (x, instObj 282 dx) :: (dx, dictOf (wdE w RL i t1 t2 t3 t4 u) 4) :: news) 2 (fun ok => ∀ u' q, (∀ p ∈ news, p.1 < q) → ok (.ref q) ((q, tupO [.str y tk1, .int b tk2]) :: (RL, listOf vs.toArray c) :: (x, instObj 282 dx) :: (dx, dictOf (wdE w RL (i + 1) t1 t2 t3 t4 u') 4) :: news))
theorem ne : Nonempty (World × Ledger × Addr × Addr × Addr × (List Value) × Nat × Int × Addr × Str × Int × Tok × Tok × Tok × Value × Tok × Tok × Tok × Tok × Tok) := ⟨(wld, default, default, default, default, default, default, default, default, default, default, default, default, default, default, default, default, default, default, default)⟩
noncomputable def d : World × Ledger × Addr × Addr × Addr × (List Value) × Nat × Int × Addr × Str × Int × Tok × Tok × Tok × Value × Tok × Tok × Tok × Tok × Tok := cex ne fun d => P d.1 d.2.1 d.2.2.1 d.2.2.2.1 d.2.2.2.2.1 d.2.2.2.2.2.1 d.2.2.2.2.2.2.1 d.2.2.2.2.2.2.2.1 d.2.2.2.2.2.2.2.2.1 d.2.2.2.2.2.2.2.2.2.1 d.2.2.2.2.2.2.2.2.2.2.1 d.2.2.2.2.2.2.2.2.2.2.2.1 d.2.2.2.2.2.2.2.2.2.2.2.2.1 d.2.2.2.2.2.2.2.2.2.2.2.2.2.1 d.2.2.2.2.2.2.2.2.2.2.2.2.2.2.1 d.2.2.2.2.2.2.2.2.2.2.2.2.2.2.2.1 d.2.2.2.2.2.2.2.2.2.2.2.2.2.2.2.2.1 d.2.2.2.2.2.2.2.2.2.2.2.2.2.2.2.2.2.1 d.2.2.2.2.2.2.2.2.2.2.2.2.2.2.2.2.2.2.1 d.2.2.2.2.2.2.2.2.2.2.2.2.2.2.2.2.2.2.2
noncomputable def w : World := d.1
noncomputable def news : Ledger := d.2.1
noncomputable def x : Addr := d.2.2.1
noncomputable def dx : Addr := d.2.2.2.1
noncomputable def RL : Addr := d.2.2.2.2.1
noncomputable def vs : List Value := d.2.2.2.2.2.1
noncomputable def c : Nat := d.2.2.2.2.2.2.1
noncomputable def i : Int := d.2.2.2.2.2.2.2.1
noncomputable def a : Addr := d.2.2.2.2.2.2.2.2.1
noncomputable def y : Str := d.2.2.2.2.2.2.2.2.2.1
noncomputable def b : Int := d.2.2.2.2.2.2.2.2.2.2.1
noncomputable def tk0 : Tok := d.2.2.2.2.2.2.2.2.2.2.2.1
noncomputable def tk1 : Tok := d.2.2.2.2.2.2.2.2.2.2.2.2.1
noncomputable def tk2 : Tok := d.2.2.2.2.2.2.2.2.2.2.2.2.2.1
noncomputable def v3 : Value := d.2.2.2.2.2.2.2.2.2.2.2.2.2.2.1
noncomputable def t1 : Tok := d.2.2.2.2.2.2.2.2.2.2.2.2.2.2.2.1
noncomputable def t2 : Tok := d.2.2.2.2.2.2.2.2.2.2.2.2.2.2.2.2.1
noncomputable def t3 : Tok := d.2.2.2.2.2.2.2.2.2.2.2.2.2.2.2.2.2.1
noncomputable def t4 : Tok := d.2.2.2.2.2.2.2.2.2.2.2.2.2.2.2.2.2.2.1
noncomputable def u : Tok := d.2.2.2.2.2.2.2.2.2.2.2.2.2.2.2.2.2.2.2
theorem main (hz : vs.length ≤ 20) (h0 : 0 ≤ i) (hv : vs[i.toNat]? = some (.ref a)) (hx1 : x ≠ dx) (hx3 : RL ≠ dx) (hn : ∀ p ∈ news, p.1 ≠ dx) (ha : (a, tupO [.str (Str.ofString "name") tk0, .str y tk1, .int b tk2, v3]) ∈ news) (hk : Eqs (Str.ofString "name") (Str.ofString "name") true) : Fn w 279 [.ref x] ((RL, listOf vs.toArray c) :: (x, instObj 282 dx) :: (dx, dictOf (wdE w RL i t1 t2 t3 t4 u) 4) :: news) 2 (fun ok => ∀ u' q, (∀ p ∈ news, p.1 < q) → ok (.ref q) ((q, tupO [.str y tk1, .int b tk2]) :: (RL, listOf vs.toArray c) :: (x, instObj 282 dx) :: (dx, dictOf (wdE w RL (i + 1) t1 t2 t3 t4 u') 4) :: news)) := by
  refine' fn_of_body (binds := [(Str.ofString "self", .ref x)]) ?ho ?hcd ?hb ?hl ?hc ?hR ?body ?c1 ?c2 ?c3
  (case ho => k_is)
  (case hcd => k_is)
  (case hb => rfl)
  (case hl => rfl)
  (case hc => decide)
  (case hR => exact (fun _ _ h k u q l => h _ _ (k u q l)))
  (case c1 => rfl)
  (case c2 => rfl)
  (case c3 => rfl)
  refine bd_eps ?_
  intro B F X N T hd hu hret
  unfold wdE at N
  have hp := words_peek w news x dx RL vs c i (.ref a) t1 t2 t3 t4 u hz h0 hv
  unfold wdE at hp
  repeat' ((fail_if_success (with_reducible show wpAny _ _ (exec (Stmt.For _ _ _ _ _) _) _ _ _)); (fail_if_success (with_reducible show wpAny _ _ (pyIter _) _ _ _)); (fail_if_success (with_reducible show wpAny _ _ (exec (Stmt.While _ _ _ _) _) _ _ _)); first | walk1 | (dsimp only; walk1))
  exact hret _ _ (ktn_ltOf (And.right (And.right (And.right (by assumption))))) _ _ _ (by assumption) (by assumption)
end Ep_words_name
theorem words_name (w : World) (news : Ledger) (x dx RL : Addr) (vs : List Value) (c : Nat) (i : Int) (a : Addr) (y : Str) (b : Int) (tk0 tk1 tk2 : Tok) (v3 : Value) (t1 t2 t3 t4 u : Tok) (hz : vs.length ≤ 20) (h0 : 0 ≤ i) (hv : vs[i.toNat]? = some (.ref a)) (hx1 : x ≠ dx) (hx3 : RL ≠ dx) (hn : ∀ p ∈ news, p.1 ≠ dx) (ha : (a, tupO [.str (Str.ofString "name") tk0, .str y tk1, .int b tk2, v3]) ∈ news) (hk : Eqs (Str.ofString "name") (Str.ofString "name") true) : Fn w 279 [.ref x] ((RL, listOf vs.toArray c) :: (x, instObj 282 dx) :: (dx, dictOf (wdE w RL i t1 t2 t3 t4 u) 4) :: news) 2 (fun ok => ∀ u' q, (∀ p ∈ news, p.1 < q) → ok (.ref q) ((q, tupO [.str y tk1, .int b tk2]) :: (RL, listOf vs.toArray c) :: (x, instObj 282 dx) :: (dx, dictOf (wdE w RL (i + 1) t1 t2 t3 t4 u') 4) :: news)) :=
  (cex_all (ne := Ep_words_name.ne) (P := fun d : World × Ledger × Addr × Addr × Addr × (List Value) × Nat × Int × Addr × Str × Int × Tok × Tok × Tok × Value × Tok × Tok × Tok × Tok × Tok => Ep_words_name.P d.1 d.2.1 d.2.2.1 d.2.2.2.1 d.2.2.2.2.1 d.2.2.2.2.2.1 d.2.2.2.2.2.2.1 d.2.2.2.2.2.2.2.1 d.2.2.2.2.2.2.2.2.1 d.2.2.2.2.2.2.2.2.2.1 d.2.2.2.2.2.2.2.2.2.2.1 d.2.2.2.2.2.2.2.2.2.2.2.1 d.2.2.2.2.2.2.2.2.2.2.2.2.1 d.2.2.2.2.2.2.2.2.2.2.2.2.2.1 d.2.2.2.2.2.2.2.2.2.2.2.2.2.2.1 d.2.2.2.2.2.2.2.2.2.2.2.2.2.2.2.1 d.2.2.2.2.2.2.2.2.2.2.2.2.2.2.2.2.1 d.2.2.2.2.2.2.2.2.2.2.2.2.2.2.2.2.2.1 d.2.2.2.2.2.2.2.2.2.2.2.2.2.2.2.2.2.2.1 d.2.2.2.2.2.2.2.2.2.2.2.2.2.2.2.2.2.2.2) (fun hz h0 hv hx1 hx3 hn ha hk => Ep_words_name.main hz h0 hv hx1 hx3 hn ha hk) (w, news, x, dx, RL, vs, c, i, a, y, b, tk0, tk1, tk2, v3, t1, t2, t3, t4, u)) hz h0 hv hx1 hx3 hn ha hk
end
section
local macro_rules | `(tactic| walk_at "call ref") => `(tactic| ((with_reducible show wpAny _ _ (call (Value.ref 103) _) _ _ _); refine fn_useA (octets_of_rune_ok _ _ _ _ (by omega) (by omega)) ?_; intro t' h' tk' F' N'))
local macro_rules | `(tactic| walk_at "call ref") => `(tactic| ((with_reducible show wpAny _ _ (call (Value.ref 165) _) _ _ _); refine fn_useA (read_escape_x _ _ _ _ _ _ _ _ (by omega) (by omega) (by assumption) (by with_reducible assumption) (by assumption) (by assumption)) ?_; intro p' t1' t2' l1' h' tk' F' N'))
/-- One octet's text at a place. -/
noncomputable def QI (x : Str) (a o a' : Int) : Prop :=
  (∃ c : Nat, (c : Int) = o ∧ c < 128 ∧ Itm x a ⟨#[c]⟩ ∧ Slc x a (a + 1) ⟨#[c]⟩ ∧ Eqs ⟨#[c]⟩ (Str.ofString "\\") false ∧ ([Str.ofString "", Str.ofString "\n", Str.ofString "\""].any fun x => x == ⟨#[c]⟩) = false ∧ a' = a + 1) ∨
  (Itm x a (Str.ofString "\\") ∧ Slc x a (a + 1) (Str.ofString "\\") ∧ Slc x (a + 1) (a + 2) (Str.ofString "x") ∧ ∃ figs, Txt.slice x (some (a + 2)) (some (a + 2 + 2)) = figs ∧ (figs.length : Int) = 2 ∧ (∀ (i c : Nat), figs.cps[i]? = some c → figureWorth ⟨#[c]⟩ < 16) ∧ numFold 16 figs.cps.toList = o ∧ 0 ≤ o ∧ o < 256 ∧ a' = a + 2 + 2)
noncomputable def rqM (ps : Nat → Int) (c : Nat × Tok × Option Value × Option Value) (m₀ : Map) : Map := fun y => if y = Str.ofString "value" then c.2.2.1 else if y = Str.ofString "is_octet" then c.2.2.2 else if y = Str.ofString "at" then some (.int (ps c.1) c.2.1) else m₀ y
noncomputable abbrev rqN (D : Addr) (os : List Int) (news : Ledger) (c : Nat × Tok × Option Value × Option Value) (_ : Ledger) : Ledger := (D, baO (byteArr (os.take c.1))) :: news
theorem rq_end {h₀ h' : Heap} {L D : Addr} {ps : Nat → Int} {os : List Int} {i : Nat} {ta T : Tok} {vo oo : Option Value} {m1 : Map} {news : Ledger} {a' : Int} {s : Shared} {tk : Nat} {nn : Ledger} {Q : Flow → Shared → Prop} (hi : i < os.length) (ha : ps (i + 1) = a')
    (F : Fr h₀ L h' (fun y => if y = Str.ofString "at" then some (.int a' T) else if y = Str.ofString "found" then some (.ref D) else rqM ps (i, ta, vo, oo) (fun y => if y = Str.ofString "found" then some (.ref D) else m1 y) y))
    (N : News h₀ L h' ((D, baO (byteArr (os.take (i + 1)))) :: news)) :
    WhPost h₀ L s (fun c => c.1 ≤ os.length) (fun c => os.length - c.1) (rqM ps) (rqN D os news) (fun y => if y = Str.ofString "found" then some (.ref D) else m1 y) nn Q (i, ta, vo, oo) .next { s with heap := h', toks := tk } := by
  refine wh_end (i + 1, T, vo, oo) F N (fun _ h => h) ?_ (show i + 1 ≤ _ by omega) (show _ - (i + 1) < _ - i by omega)
  subst ha
  funext y
  unfold rqM
  by_cases h1 : y = Str.ofString "at"
  · subst h1; rfl
  · by_cases h2 : y = Str.ofString "found"
    · subst h2; rfl
    · by_cases h3 : y = Str.ofString "value"
      · subst h3; rfl
      · by_cases h4 : y = Str.ofString "is_octet"
        · subst h4; rfl
        · simp only [h1, h2, h3, h4, if_false]
theorem rq_end2 {h₀ h' : Heap} {L D : Addr} {ps : Nat → Int} {os : List Int} {i : Nat} {ta T : Tok} {vo oo : Option Value} {v1 v2 : Value} {m1 : Map} {news : Ledger} {a' : Int} {s : Shared} {tk : Nat} {nn : Ledger} {Q : Flow → Shared → Prop} (hi : i < os.length) (ha : ps (i + 1) = a')
    (F : Fr h₀ L h' (fun y => if y = Str.ofString "found" then some (.ref D) else if y = Str.ofString "at" then some (.int a' T) else if y = Str.ofString "is_octet" then some v2 else if y = Str.ofString "value" then some v1 else rqM ps (i, ta, vo, oo) (fun y => if y = Str.ofString "found" then some (.ref D) else m1 y) y))
    (N : News h₀ L h' ((D, baO (byteArr (os.take (i + 1)))) :: news)) :
    WhPost h₀ L s (fun c => c.1 ≤ os.length) (fun c => os.length - c.1) (rqM ps) (rqN D os news) (fun y => if y = Str.ofString "found" then some (.ref D) else m1 y) nn Q (i, ta, vo, oo) .next { s with heap := h', toks := tk } := by
  refine wh_end (i + 1, T, some v1, some v2) F N (fun _ h => h) ?_ (show i + 1 ≤ _ by omega) (show _ - (i + 1) < _ - i by omega)
  subst ha
  funext y
  unfold rqM
  by_cases h1 : y = Str.ofString "at"
  · subst h1; rfl
  · by_cases h2 : y = Str.ofString "found"
    · subst h2; rfl
    · by_cases h3 : y = Str.ofString "value"
      · subst h3; rfl
      · by_cases h4 : y = Str.ofString "is_octet"
        · subst h4; rfl
        · simp only [h1, h2, h3, h4, if_false]
local macro_rules | `(tactic| walk_at "call type:bytes") => `(tactic| ((with_reducible show wpAny _ _ (call _ [Value.ref _]) _ _ _); first
  | (refine' KBa.make_K (ns := [_]) (by assumption) (by assumption) rfl (News.isList (by assumption) (by k_mem)) ?kbai (by assumption) (by show 1 ≤ _; omega) ?_; (case kbai => exact .cons rfl .nil); intro h1' t1' tk1' FB NB _)
  | refine bytes_baN (by assumption) (by first | exact .head _ | exact .tail _ (.head _) | exact .tail _ (.tail _ (.head _))) (by omega) ?_))
namespace Ep_read_quoted_ok
noncomputable def P (w : World) (news : Ledger) (x : Str) (y : Str) (b : Int) (os : List Int) (ps : Nat → Int) (t : Tok) (u : Tok) : Prop := ∀ (hx : x.length ≤ 1000) (hb0 : 0 ≤ b) (hp0 : ps 0 = b + 1) (hos : os.length ≤ 100) (hpos : ∀ i, 0 ≤ ps i) (hit : ∀ i o, os[i]? = some o → QI x (ps i) o (ps (i + 1))) (hq : Slc x (ps os.length) (ps os.length + 1) (Str.ofString "\"")) (hy : Slc x b (ps os.length + 1) y), FnC w 179 [.str x t, .int b u] news 4 (fun ok => ∀ a1 a2 t1 t2 t3 t4 t5, (∀ p ∈ news, p.1 < a1) → a1 < a2 → ok (.ref a2) ((a2, tupO [.ref a1, .int (ps os.length + 1) t5]) :: (a1, tupO [.str (Str.ofString "text") t1, .str y t2, .int b t3, .bytes (byteArr os) t4]) :: news))
theorem ne : Nonempty (World × Ledger × Str × Str × Int × (List Int) × (Nat → Int) × Tok × Tok) := ⟨(wld, default, default, default, default, default, default, default, default)⟩
noncomputable def d : World × Ledger × Str × Str × Int × (List Int) × (Nat → Int) × Tok × Tok := cex ne fun d => P d.1 d.2.1 d.2.2.1 d.2.2.2.1 d.2.2.2.2.1 d.2.2.2.2.2.1 d.2.2.2.2.2.2.1 d.2.2.2.2.2.2.2.1 d.2.2.2.2.2.2.2.2
noncomputable def w : World := d.1
noncomputable def news : Ledger := d.2.1
noncomputable def x : Str := d.2.2.1
noncomputable def y : Str := d.2.2.2.1
noncomputable def b : Int := d.2.2.2.2.1
noncomputable def os : List Int := d.2.2.2.2.2.1
noncomputable def ps : Nat → Int := d.2.2.2.2.2.2.1
noncomputable def t : Tok := d.2.2.2.2.2.2.2.1
noncomputable def u : Tok := d.2.2.2.2.2.2.2.2
theorem main (hx : x.length ≤ 1000) (hb0 : 0 ≤ b) (hp0 : ps 0 = b + 1) (hos : os.length ≤ 100) (hpos : ∀ i, 0 ≤ ps i) (hit : ∀ i o, os[i]? = some o → QI x (ps i) o (ps (i + 1))) (hq : Slc x (ps os.length) (ps os.length + 1) (Str.ofString "\"")) (hy : Slc x b (ps os.length + 1) y) : FnC w 179 [.str x t, .int b u] news 4 (fun ok => ∀ a1 a2 t1 t2 t3 t4 t5, (∀ p ∈ news, p.1 < a1) → a1 < a2 → ok (.ref a2) ((a2, tupO [.ref a1, .int (ps os.length + 1) t5]) :: (a1, tupO [.str (Str.ofString "text") t1, .str y t2, .int b t3, .bytes (byteArr os) t4]) :: news)) := by
  refine' fnC_of_body (binds := [(Str.ofString "text", .str x t), (Str.ofString "begin", .int b u)]) ?ho ?hcd ?hb ?hl ?hc ?hR ?body ?c1 ?c2 ?c3
  (case ho => k_is)
  (case hcd => k_is)
  (case hb => rfl)
  (case hl => rfl)
  (case hc => decide)
  (case hR => exact (fun _ _ h k a1 a2 t1 t2 t3 t4 t5 l1 l2 => h _ _ (k a1 a2 t1 t2 t3 t4 t5 l1 l2)))
  (case c1 => rfl)
  (case c2 => rfl)
  (case c3 => rfl)
  refine bdC_eps ?_
  intro B F X N T hd hu hret
  have hx' : x.length ≤ 100000 := by omega
  refine wpC_execs_cons (wpC_Assign_swapped ?_ rfl rfl)
  refine wpC_Tuple2 (splicedC_cons (wpC_Call ?_ rfl))
  repeat' ((fail_if_success (with_reducible show wpAny _ _ (exec (Stmt.For _ _ _ _ _) _) _ _ _)); (fail_if_success (with_reducible show wpAny _ _ (pyIter _) _ _ _)); (fail_if_success (with_reducible show wpAny _ _ (exec (Stmt.While _ _ _ _) _) _ _ _)); first | walk1 | (dsimp only; walk1))
  refine callWithC_type0 (ba_new (by assumption) (by assumption) ?_)
  intro D h1 lD F1 N1
  refine wpC_of ?_
  repeat' ((fail_if_success (with_reducible show wpAny _ _ (exec (Stmt.For _ _ _ _ _) _) _ _ _)); (fail_if_success (with_reducible show wpAny _ _ (pyIter _) _ _ _)); (fail_if_success (with_reducible show wpAny _ _ (exec (Stmt.While _ _ _ _) _) _ _ _)); first | walk1 | (dsimp only; walk1))
  refine wpC_execs_cons ?_
  rw [← hp0] at *
  refine' whileC_st (σ := Nat × Tok × Option Value × Option Value) (fun c => c.1 ≤ os.length) (fun c => os.length - c.1) (rqM ps) (rqN D os news) (0, _, none, none) (by assumption) (news_of (by assumption) (fun p hp => .tail _ hp)) (Nat.zero_le _) ?hM rfl ?turn
  case hM =>
    funext y
    unfold rqM
    by_cases h1 : y = Str.ofString "value"
    · subst h1; rfl
    · by_cases h2 : y = Str.ofString "is_octet"
      · subst h2; rfl
      · by_cases h3 : y = Str.ofString "at"
        · subst h3; rfl
        · simp only [h1, h2, h3, if_false]
  case turn =>
    rintro ⟨i, ta, vo, oo⟩ h2 tk2 hP F2 N2
    change i ≤ os.length at hP
    change News _ _ h2 ((D, baO (byteArr (os.take i))) :: news) at N2
    have hpi := hpos i
    by_cases hlt : i < os.length
    · obtain ⟨o, ho⟩ : ∃ o, os[i]? = some o := ⟨_, List.getElem?_eq_getElem hlt⟩
      have hb1 : (byteArr (os.take i)).size ≤ 100 := by rw [byteArr_size, List.length_take]; omega
      have hapD : ∀ p ∈ news, p.1 ≠ D := fun p hp => Nat.ne_of_lt (lD p hp)
      have hbs : byteArr (os.take i) ++ byteArr [o] = byteArr (os.take (i + 1)) := by
        rw [byteArr_take ho]; rfl
      rcases hit i o ho with ⟨c, q1, q2, q3, q4, q5, q6, q7⟩ | ⟨q3, q4, q5, figs, q6, q7, q8, q9, q10, q11, q12⟩
      · subst q1
        repeat' ((fail_if_success (with_reducible show wpAny _ _ (exec (Stmt.For _ _ _ _ _) _) _ _ _)); (fail_if_success (with_reducible show wpAny _ _ (pyIter _) _ _ _)); (fail_if_success (with_reducible show wpAny _ _ (exec (Stmt.While _ _ _ _) _) _ _ _)); first | walk1 | (dsimp only; walk1))
        refine wpC_execs_cons (wpC_If ?_)
        repeat' ((fail_if_success (with_reducible show wpAny _ _ (exec (Stmt.For _ _ _ _ _) _) _ _ _)); (fail_if_success (with_reducible show wpAny _ _ (pyIter _) _ _ _)); (fail_if_success (with_reducible show wpAny _ _ (exec (Stmt.While _ _ _ _) _) _ _ _)); first | walk1 | (dsimp only; walk1))
        refine wpC_execs_cons (wpC_AugAssign_Name ?_)
        repeat' ((fail_if_success (with_reducible show wpAny _ _ (exec (Stmt.For _ _ _ _ _) _) _ _ _)); (fail_if_success (with_reducible show wpAny _ _ (pyIter _) _ _ _)); (fail_if_success (with_reducible show wpAny _ _ (exec (Stmt.While _ _ _ _) _) _ _ _)); first | walk1 | (dsimp only; walk1))
        refine' ba_add (D := D) (b := byteArr (os.take i)) (own := []) (rest := news) (by assumption) (news_of (by assumption) ?hs) (fun _ h => by cases h) hapD (by rw [byteArr_size [_]]; show _ + 1 ≤ _; omega) ?_
        case hs => exact fun p hp => by first | exact hp | exact .tail _ hp | exact .tail _ (.tail _ hp)
        rw [hbs]
        intro h9 F9 N9
        simp only [List.nil_append] at N9
        repeat' ((fail_if_success (with_reducible show wpAny _ _ (exec (Stmt.For _ _ _ _ _) _) _ _ _)); (fail_if_success (with_reducible show wpAny _ _ (pyIter _) _ _ _)); (fail_if_success (with_reducible show wpAny _ _ (exec (Stmt.While _ _ _ _) _) _ _ _)); first | walk1 | (dsimp only; walk1))
        refine wpC_of ?_
        repeat' ((fail_if_success (with_reducible show wpAny _ _ (exec (Stmt.For _ _ _ _ _) _) _ _ _)); (fail_if_success (with_reducible show wpAny _ _ (pyIter _) _ _ _)); (fail_if_success (with_reducible show wpAny _ _ (exec (Stmt.While _ _ _ _) _) _ _ _)); first | walk1 | (dsimp only; walk1))
        refine wpC_of (wpAny_execs_nil ?_)
        exact rq_end hlt q7 (by assumption) (by assumption)
      · subst q9
        have hbb : Eqs (Str.ofString "\\") (Str.ofString "\\") true := by show _ = _; decide
        repeat' ((fail_if_success (with_reducible show wpAny _ _ (exec (Stmt.For _ _ _ _ _) _) _ _ _)); (fail_if_success (with_reducible show wpAny _ _ (pyIter _) _ _ _)); (fail_if_success (with_reducible show wpAny _ _ (exec (Stmt.While _ _ _ _) _) _ _ _)); first | walk1 | (dsimp only; walk1))
        refine wpC_execs_cons (wpC_If ?_)
        repeat' ((fail_if_success (with_reducible show wpAny _ _ (exec (Stmt.For _ _ _ _ _) _) _ _ _)); (fail_if_success (with_reducible show wpAny _ _ (pyIter _) _ _ _)); (fail_if_success (with_reducible show wpAny _ _ (exec (Stmt.While _ _ _ _) _) _ _ _)); first | walk1 | (dsimp only; walk1))
        refine wpC_execs_consA ?_
        repeat' ((fail_if_success (with_reducible show wpAny _ _ (exec (Stmt.For _ _ _ _ _) _) _ _ _)); (fail_if_success (with_reducible show wpAny _ _ (pyIter _) _ _ _)); (fail_if_success (with_reducible show wpAny _ _ (exec (Stmt.While _ _ _ _) _) _ _ _)); first | walk1 | (dsimp only; walk1))
        refine wpC_execs_cons (wpC_AugAssign_Name ?_)
        repeat' ((fail_if_success (with_reducible show wpAny _ _ (exec (Stmt.For _ _ _ _ _) _) _ _ _)); (fail_if_success (with_reducible show wpAny _ _ (pyIter _) _ _ _)); (fail_if_success (with_reducible show wpAny _ _ (exec (Stmt.While _ _ _ _) _) _ _ _)); first | walk1 | (dsimp only; walk1))
        refine' ba_add (c := byteArr [numFold 16 figs.cps.toList]) (D := D) (b := byteArr (os.take i)) (own := []) (rest := news) (by assumption) (news_of (by assumption) ?hs) (fun _ h => by cases h) hapD (by rw [byteArr_size [_]]; show _ + 1 ≤ _; omega) ?_
        case hs => exact fun p hp => by first | exact hp | exact .tail _ hp | exact .tail _ (.tail _ hp) | exact .tail _ (.tail _ (.tail _ hp)) | exact .tail _ (.tail _ (.tail _ (.tail _ hp)))
        rw [hbs]
        intro h9 F9 N9
        simp only [List.nil_append] at N9
        repeat' ((fail_if_success (with_reducible show wpAny _ _ (exec (Stmt.For _ _ _ _ _) _) _ _ _)); (fail_if_success (with_reducible show wpAny _ _ (pyIter _) _ _ _)); (fail_if_success (with_reducible show wpAny _ _ (exec (Stmt.While _ _ _ _) _) _ _ _)); first | walk1 | (dsimp only; walk1))
        refine wpC_of (wpAny_execs_nil ?_)
        refine wpC_of (wpAny_execs_nil ?_)
        exact rq_end2 hlt q12 (by assumption) (by assumption)
    · obtain rfl : i = os.length := by omega
      have hbl : (byteArr os).size ≤ 100 := by rw [byteArr_size]; omega
      rw [List.take_length] at N2
      have N3 := N2
      clear N2
      repeat' ((fail_if_success (with_reducible show wpAny _ _ (exec (Stmt.For _ _ _ _ _) _) _ _ _)); (fail_if_success (with_reducible show wpAny _ _ (pyIter _) _ _ _)); (fail_if_success (with_reducible show wpAny _ _ (exec (Stmt.While _ _ _ _) _) _ _ _)); first | walk1 | (dsimp only; walk1))
      refine wpC_of ?_
      have hqq : Eqs (Str.ofString "\"") (Str.ofString "\"") true := by show _ = _; decide
      repeat' ((fail_if_success (with_reducible show wpAny _ _ (exec (Stmt.For _ _ _ _ _) _) _ _ _)); (fail_if_success (with_reducible show wpAny _ _ (pyIter _) _ _ _)); (fail_if_success (with_reducible show wpAny _ _ (exec (Stmt.While _ _ _ _) _) _ _ _)); first | walk1 | (dsimp only; walk1))
      refine' hret _ _ _ _ _ _ _ ?l1 ?l2 _ _ _ ?F ?N
      case F => assumption
      case N => exact news_of (by assumption) (List.Sublist.subset (.cons₂ _ (.cons₂ _ (.cons _ (.cons _ (.refl _))))))
      case l1 => exact ktn_ltOf (And.right (And.right (by assumption)))
      case l2 => exact And.left (by assumption)
end Ep_read_quoted_ok
theorem read_quoted_ok (w : World) (news : Ledger) (x y : Str) (b : Int) (os : List Int) (ps : Nat → Int) (t u : Tok) (hx : x.length ≤ 1000) (hb0 : 0 ≤ b) (hp0 : ps 0 = b + 1) (hos : os.length ≤ 100) (hpos : ∀ i, 0 ≤ ps i) (hit : ∀ i o, os[i]? = some o → QI x (ps i) o (ps (i + 1))) (hq : Slc x (ps os.length) (ps os.length + 1) (Str.ofString "\"")) (hy : Slc x b (ps os.length + 1) y) : FnC w 179 [.str x t, .int b u] news 4 (fun ok => ∀ a1 a2 t1 t2 t3 t4 t5, (∀ p ∈ news, p.1 < a1) → a1 < a2 → ok (.ref a2) ((a2, tupO [.ref a1, .int (ps os.length + 1) t5]) :: (a1, tupO [.str (Str.ofString "text") t1, .str y t2, .int b t3, .bytes (byteArr os) t4]) :: news)) :=
  (cex_all (ne := Ep_read_quoted_ok.ne) (P := fun d : World × Ledger × Str × Str × Int × (List Int) × (Nat → Int) × Tok × Tok => Ep_read_quoted_ok.P d.1 d.2.1 d.2.2.1 d.2.2.2.1 d.2.2.2.2.1 d.2.2.2.2.2.1 d.2.2.2.2.2.2.1 d.2.2.2.2.2.2.2.1 d.2.2.2.2.2.2.2.2) (fun hx hb0 hp0 hos hpos hit hq hy => Ep_read_quoted_ok.main hx hb0 hp0 hos hpos hit hq hy) (w, news, x, y, b, os, ps, t, u)) hx hb0 hp0 hos hpos hit hq hy
end
theorem in_facts3 : Ins (Str.ofString "\"") NBEG false ∧ Ins (Str.ofString "\"") FIGS false ∧ Eqs (Str.ofString "\"") (Str.ofString "\"") true := by
  refine ⟨?_, ?_, ?_⟩ <;> (show _ = _; decide +kernel)
namespace Ep_read_word_text
noncomputable def P (w : World) (news : Ledger) (x : Str) (a : Int) (t : Tok) (u : Tok) (D : Nat) (R : Ok → Prop) : Prop := ∀ (hx : x.length ≤ 1000) (hz : Itm x a (Str.ofString "\"")) (hR : ∀ ok ok' : Ok, (∀ v n, ok v n → ok' v n) → R ok → R ok') (hf : ∀ t u, FnC w 179 [.str x t, .int a u] news D R), FnC w 207 [.str x t, .int a u] news (D + 1) R
theorem ne : Nonempty (World × Ledger × Str × Int × Tok × Tok × Nat × (Ok → Prop)) := ⟨(wld, default, default, default, default, default, default, default)⟩
noncomputable def d : World × Ledger × Str × Int × Tok × Tok × Nat × (Ok → Prop) := cex ne fun d => P d.1 d.2.1 d.2.2.1 d.2.2.2.1 d.2.2.2.2.1 d.2.2.2.2.2.1 d.2.2.2.2.2.2.1 d.2.2.2.2.2.2.2
noncomputable def w : World := d.1
noncomputable def news : Ledger := d.2.1
noncomputable def x : Str := d.2.2.1
noncomputable def a : Int := d.2.2.2.1
noncomputable def t : Tok := d.2.2.2.2.1
noncomputable def u : Tok := d.2.2.2.2.2.1
noncomputable def D : Nat := d.2.2.2.2.2.2.1
noncomputable def R : Ok → Prop := d.2.2.2.2.2.2.2
theorem main (hx : x.length ≤ 1000) (hz : Itm x a (Str.ofString "\"")) (hR : ∀ ok ok' : Ok, (∀ v n, ok v n → ok' v n) → R ok → R ok') (hf : ∀ t u, FnC w 179 [.str x t, .int a u] news D R) : FnC w 207 [.str x t, .int a u] news (D + 1) R := by
  refine' fnC_of_body (binds := [(Str.ofString "text", .str x t), (Str.ofString "at", .int a u)]) ?ho ?hcd ?hb ?hl ?hc ?hR ?body ?c1 ?c2 ?c3
  (case ho => k_is)
  (case hcd => k_is)
  (case hb => rfl)
  (case hl => rfl)
  (case hc => decide)
  (case hR => exact hR)
  (case c1 => rfl)
  (case c2 => rfl)
  (case c3 => rfl)
  refine bdC_eps ?_
  intro B F X N T hd hu hret
  have hx' : x.length ≤ 100000 := by omega
  obtain ⟨i1, i2, i3⟩ := in_facts3
  refine wpC_execs_consA ?_
  repeat' ((fail_if_success (with_reducible show wpAny _ _ (exec (Stmt.For _ _ _ _ _) _) _ _ _)); (fail_if_success (with_reducible show wpAny _ _ (pyIter _) _ _ _)); (fail_if_success (with_reducible show wpAny _ _ (exec (Stmt.While _ _ _ _) _) _ _ _)); first | walk1 | (dsimp only; walk1))
  refine wpC_execs_cons (wpC_If ?_)
  repeat' ((fail_if_success (with_reducible show wpAny _ _ (exec (Stmt.For _ _ _ _ _) _) _ _ _)); (fail_if_success (with_reducible show wpAny _ _ (pyIter _) _ _ _)); (fail_if_success (with_reducible show wpAny _ _ (exec (Stmt.While _ _ _ _) _) _ _ _)); first | walk1 | (dsimp only; walk1))
  refine wpC_of (wpAny_execs_nil ?_)
  refine wpC_execs_cons (wpC_If ?_)
  repeat' ((fail_if_success (with_reducible show wpAny _ _ (exec (Stmt.For _ _ _ _ _) _) _ _ _)); (fail_if_success (with_reducible show wpAny _ _ (pyIter _) _ _ _)); (fail_if_success (with_reducible show wpAny _ _ (exec (Stmt.While _ _ _ _) _) _ _ _)); first | walk1 | (dsimp only; walk1))
  refine wpC_of (wpAny_execs_nil ?_)
  refine wpC_execs_cons (wpC_If ?_)
  repeat' ((fail_if_success (with_reducible show wpAny _ _ (exec (Stmt.For _ _ _ _ _) _) _ _ _)); (fail_if_success (with_reducible show wpAny _ _ (pyIter _) _ _ _)); (fail_if_success (with_reducible show wpAny _ _ (exec (Stmt.While _ _ _ _) _) _ _ _)); first | walk1 | (dsimp only; walk1))
  refine wpC_execs_cons (wpC_Return_some (wpC_Call ?_ rfl))
  repeat' ((fail_if_success (with_reducible show wpAny _ _ (exec (Stmt.For _ _ _ _ _) _) _ _ _)); (fail_if_success (with_reducible show wpAny _ _ (pyIter _) _ _ _)); (fail_if_success (with_reducible show wpAny _ _ (exec (Stmt.While _ _ _ _) _) _ _ _)); first | walk1 | (dsimp only; walk1))
  refine callWithC_K X (by k_is) (wpC_of ?_) rfl rfl
  repeat' ((fail_if_success (with_reducible show wpAny _ _ (exec (Stmt.For _ _ _ _ _) _) _ _ _)); (fail_if_success (with_reducible show wpAny _ _ (pyIter _) _ _ _)); (fail_if_success (with_reducible show wpAny _ _ (exec (Stmt.While _ _ _ _) _) _ _ _)); first | walk1 | (dsimp only; walk1))
  refine fnC_use (hf _ _) (by assumption) (by assumption) (by assumption) (by assumption) (by assumption) rfl (by first | exact dlt (by assumption) (by rfl) | omega) (by first | exact ult (by assumption) (by rfl) | omega) ?_
  refine hR _ _ (fun v n hv h' tk' F' N' => ?_) hret
  exact hv _ _ _ F' N'
end Ep_read_word_text
theorem read_word_text (w : World) (news : Ledger) (x : Str) (a : Int) (t u : Tok) (D : Nat) (R : Ok → Prop) (hx : x.length ≤ 1000) (hz : Itm x a (Str.ofString "\"")) (hR : ∀ ok ok' : Ok, (∀ v n, ok v n → ok' v n) → R ok → R ok') (hf : ∀ t u, FnC w 179 [.str x t, .int a u] news D R) : FnC w 207 [.str x t, .int a u] news (D + 1) R :=
  (cex_all (ne := Ep_read_word_text.ne) (P := fun d : World × Ledger × Str × Int × Tok × Tok × Nat × (Ok → Prop) => Ep_read_word_text.P d.1 d.2.1 d.2.2.1 d.2.2.2.1 d.2.2.2.2.1 d.2.2.2.2.2.1 d.2.2.2.2.2.2.1 d.2.2.2.2.2.2.2) (fun hx hz hR hf => Ep_read_word_text.main hx hz hR hf) (w, news, x, a, t, u, D, R)) hx hz hR hf
section
/-- A row of words: its parts, the value by its token. -/
structure Row where
  kind : Str
  text : Str
  pos : Int
  val : Tok → Value
noncomputable def RowIs (r : Row) (o : Obj) : Prop := ∃ t1 t2 t3 t4, o = tupO [.str r.kind t1, .str r.text t2, .int r.pos t3, r.val t4]
noncomputable abbrev refsOf (rs : Ledger) : List Value := rs.map fun p => Value.ref p.1
noncomputable def RowsAre (rows : Nat → Row) (rs : Ledger) : Prop := ∀ i p, rs[i]? = some p → RowIs (rows i) p.2
theorem RowsAre.snoc {rows : Nat → Row} {rs : Ledger} {p : Addr × Obj} (h : RowsAre rows rs) (hp : RowIs (rows rs.length) p.2) : RowsAre rows (rs ++ [p]) := by
  intro i q hq
  rcases Nat.lt_or_ge i rs.length with hi | hi
  · rw [List.getElem?_append_left hi] at hq
    exact h i q hq
  · rw [List.getElem?_append_right hi] at hq
    cases hk : i - rs.length with
    | zero =>
      rw [hk] at hq
      obtain rfl : i = rs.length := by omega
      obtain rfl : p = q := by simpa using hq
      exact hp
    | succ k => rw [hk] at hq; simp at hq
theorem ne_lens {prog : Program} {w : World} {A : Around} {E : Value → Shared → Prop} {s : Shared} {l b : Addr} {xs ys : Array Value} {Q : Value → Shared → Prop} (hl : s.heap.IsList l xs) (hb : s.heap.IsList b ys) (hs : (xs.size != ys.size) = true) (hu : A.units < cLine) (h : Q (.bool true) s) :
    wpAny (model prog w) A (compareOp .NotEq (.ref l) (.ref b)) Q E s := PySem.SeqAt.RcNeAt.lists_lengths hl hb hs hu prog w E Q h
theorem item_last {prog : Program} {w : World} {A : Around} {E : Value → Shared → Prop} {s : Shared} {value slice : PySem.Expr} {l : Addr} {vs : List Value} {u : Tok} {v : Value} {Q : Value → Shared → Prop} (hl : s.heap.IsList l vs.toArray) (h1 : 1 ≤ vs.length) (hx : vs[vs.length - 1]? = some v) (h : Q v s)
    (hs : subscripted slice false (.ref l) (.int (-1) u) = operate [.ref l, .int (-1) u] (getItem (.ref l) (.int (-1) u)) := by with_unfolding_all rfl) (hg : ∀ r, letTemporaryGo value (.ref l) r = pure () := by intro _; with_unfolding_all rfl) :
    wpAny (model prog w) A (subscriptTail value slice (.ref l) (.int (-1) u)) Q E s :=
  tail_any hl.typeIs slot_list_getitem.lookup (wpAny_getItem_list_neg hl (by decide) (by simp; omega) (by decide) (by rw [show ((-1 : Int) + (vs.toArray.size : Nat)).toNat = vs.length - 1 by simp; omega]; simpa using hx) h) hs
/-- The state of the loop of word_rows. -/
structure WSt where
  k : Nat
  ta : Tok
  bo : Option Value
  wo : Option Value
  rs : Ledger
noncomputable def wrM (ats : Nat → Int) (c : WSt) (m₀ : Map) : Map := fun y => if y = Str.ofString "word" then c.wo else if y = Str.ofString "broken" then c.bo else if y = Str.ofString "at" then some (.int (ats c.k) c.ta) else m₀ y
noncomputable def wrN (D : Addr) (news : Ledger) (c : WSt) (_ : Ledger) : Ledger := (D, listOf (refsOf c.rs).toArray c.k) :: (c.rs ++ news)
noncomputable def wrP (rows : Nat → Row) (D : Addr) (n : Nat) (c : WSt) : Prop := c.k ≤ n ∧ c.rs.length = c.k ∧ RowsAre rows c.rs ∧ ∀ p ∈ c.rs, D < p.1
theorem wr_end {h₀ h' : Heap} {L D a1 : Addr} {ats bgs : Nat → Int} {rows : Nat → Row} {n : Nat} {c : WSt} {m₀ : Map} {news own nn : Ledger} {o : Obj} {s : Shared} {tk : Nat} {T T' : Tok} {Q : Flow → Shared → Prop}
    (F : Fr h₀ L h' (fun y => if y = Str.ofString "at" then some (.int (ats (c.k + 1)) T) else if y = Str.ofString "word" then some (.ref a1) else if y = Str.ofString "broken" then some .none else if y = Str.ofString "at" then some (.int (bgs c.k) T') else wrM ats c m₀ y))
    (N : News h₀ L h' (own ++ (D, listOf (refsOf c.rs ++ [Value.ref a1]).toArray (c.k + 1)) :: (c.rs ++ news))) (ho : (a1, o) ∈ own) (hP : wrP rows D n c) (hk : c.k < n) (hD : D < a1) (hr : RowIs (rows c.k) o) :
    WhPost h₀ L s (wrP rows D n) (fun c => n - c.k) (wrM ats) (wrN D news) m₀ nn Q c .next { s with heap := h', toks := tk } := by
  obtain ⟨p1, p2, p3, p4⟩ := hP
  refine wh_end ⟨c.k + 1, T, some .none, some (.ref a1), c.rs ++ [(a1, o)]⟩ F N ?_ ?_ ⟨hk, by simp [p2], p3.snoc (by rw [p2]; exact hr), ?_⟩ (show n - (c.k + 1) < n - c.k by omega)
  · intro p hp
    change p ∈ (D, listOf (refsOf (c.rs ++ [(a1, o)])).toArray (c.k + 1)) :: ((c.rs ++ [(a1, o)]) ++ news) at hp
    rw [refsOf, List.map_append] at hp
    rcases List.mem_cons.mp hp with rfl | hp
    · exact List.mem_append_right _ (List.Mem.head _)
    · rcases List.mem_append.mp hp with hp | hp
      · rcases List.mem_append.mp hp with hp | hp
        · exact List.mem_append_right _ (List.Mem.tail _ (List.mem_append_left _ hp))
        · rw [List.mem_singleton.mp hp]; exact List.mem_append_left _ ho
      · exact List.mem_append_right _ (List.Mem.tail _ (List.mem_append_right _ hp))
  · funext y
    unfold wrM
    by_cases h1 : y = Str.ofString "at"
    · subst h1; rfl
    · by_cases h2 : y = Str.ofString "word"
      · subst h2; rfl
      · by_cases h3 : y = Str.ofString "broken"
        · subst h3; rfl
        · simp only [h1, h2, h3, if_false]
  · intro p hp
    rcases List.mem_append.mp hp with hp | hp
    · exact p4 p hp
    · rw [List.mem_singleton.mp hp]; exact hD
theorem wr_done {rows : Nat → Row} {rs news : Ledger} {D D2 D3 E2 pb : Addr} {o2 o3 oe op : Obj} {c n : Nat} {h₀ h' : Heap} {L : Addr} {Z : Prop}
    (N : News h₀ L h' ((D3, o3) :: (D2, o2) :: (E2, oe) :: (pb, op) :: (D, listOf (refsOf rs ++ [Value.ref D2] ++ [Value.ref D3]).toArray c) :: (rs ++ news)))
    (hl : rs.length = n) (hr : RowsAre rows rs) (h2 : RowIs (rows n) o2) (h3 : RowIs (rows (n + 1)) o3) (hD : ∀ p ∈ rs, D < p.1) (l2 : D < D2) (l3 : D < D3)
    (h : ∀ rs' : Ledger, (∀ p ∈ rs', D < p.1) → rs'.length = n + 2 → RowsAre rows rs' → News h₀ L h' ((D, listOf (refsOf rs').toArray c) :: (rs' ++ news)) → Z) : Z := by
  refine h (rs ++ [(D2, o2)] ++ [(D3, o3)]) ?_ (by simp [hl]) ((hr.snoc (by rw [hl]; exact h2)).snoc (by simpa [hl] using h3)) (news_of N ?_)
  · intro p hp
    rcases List.mem_append.mp hp with hp | hp
    · rcases List.mem_append.mp hp with hp | hp
      · exact hD p hp
      · rw [List.mem_singleton.mp hp]; exact l2
    · rw [List.mem_singleton.mp hp]; exact l3
  · intro p hp
    rw [refsOf, List.map_append, List.map_append] at hp
    rcases List.mem_cons.mp hp with rfl | hp
    · exact .tail _ (.tail _ (.tail _ (.tail _ (.head _))))
    · rcases List.mem_append.mp hp with hp | hp
      · rcases List.mem_append.mp hp with hp | hp
        · rcases List.mem_append.mp hp with hp | hp
          · exact .tail _ (.tail _ (.tail _ (.tail _ (.tail _ (List.mem_append_left _ hp)))))
          · rw [List.mem_singleton.mp hp]; exact .tail _ (.head _)
        · rw [List.mem_singleton.mp hp]; exact .head _
      · exact .tail _ (.tail _ (.tail _ (.tail _ (.tail _ (List.mem_append_right _ hp)))))
theorem wr_bl {w : World} {x : Str} {a b : Int} (h : ∀ news t u, Fn w 130 [.str x t, .int a u] news 2 (fun ok => ∀ p t1, (∀ q ∈ news, q.1 < p) → ok (.ref p) ((p, blkO b t1) :: news))) (news : Ledger) (t u : Tok) :
    Fn w 130 [.str x t, .int a u] news 2 (fun ok => ∀ p t1, (∀ q ∈ news, q.1 < p) → ok (.ref p) ((p, blkO b t1) :: news)) := h news t u
local macro_rules | `(tactic| walk_at "call ref") => `(tactic| ((with_reducible show wpAny _ _ (call (Value.ref 130) _) _ _ _); refine fn_useA (wr_bl (by assumption) _ _ _) ?_; intro p' t1' l1' h' tk' F' N'))
local macro_rules | `(tactic| walk_at "compareOp NotEq ref ref") => `(tactic| k_dflt (refine ne_lens (News.isList (by assumption) (by exact .tail _ (.tail _ (.head _)))) (News.isList (by assumption) (by exact .head _)) (by assumption) (units_lt (by assumption)) ?_))
local macro_rules | `(tactic| walk_at "subscriptTail Name UnaryOp ref int") => `(tactic| ((with_reducible show wpAny _ _ (subscriptTail _ _ (Value.ref _) (Value.int _ _)) _ _ _); k_dflt (refine item_last (News.isList (by assumption) (by exact .tail _ (.tail _ (.head _)))) (by assumption) (by assumption) ?_)))
local macro_rules | `(tactic| walk_at "call ref") => `(tactic| ((with_reducible show wpAny _ _ (call (Value.ref 214) _) _ _ _); refine' fn_useA (ends_line_ok _ _ _ _ _ _ _ _ _ ?hk ?hm) ?_; (case hm => exact .tail _ (.tail _ (.tail _ (by assumption)))); (case hk => assumption); intro h' tk' F' N'))
theorem ne_all3 {a b c : Addr} {x y z : Obj} {D : Addr} (h1 : a ≠ D) (h2 : b ≠ D) (h3 : c ≠ D) : ∀ p ∈ [(a, x), (b, y), (c, z)], p.1 ≠ D := by
  intro p hp
  simp only [List.mem_cons, List.not_mem_nil, or_false] at hp
  rcases hp with rfl | rfl | rfl <;> assumption
theorem ne_all4 {a b c d : Addr} {x y z u : Obj} {D : Addr} (h1 : a ≠ D) (h2 : b ≠ D) (h3 : c ≠ D) (h4 : d ≠ D) : ∀ p ∈ [(a, x), (b, y), (c, z), (d, u)], p.1 ≠ D := by
  intro p hp
  simp only [List.mem_cons, List.not_mem_nil, or_false] at hp
  rcases hp with rfl | rfl | rfl | rfl <;> assumption
local macro_rules | `(tactic| walk_at "call builtin:list.append") => `(tactic| ((first
  | (k_dflt (refine' append_in (own := [_, _, _]) ?hF ?hN ?hown ?hap ?_ ?hz); (case hF => assumption); (case hN => assumption); (case hap => assumption); (case hz => rw [sizeLine_eq]; omega); (case hown => refine ne_all3 ?_ ?_ ?_ <;> first | with_reducible assumption | exact Nat.ne_of_gt (And.left (by assumption)) | exact Nat.ne_of_gt (And.left (And.right (by assumption))) | exact Nat.ne_of_gt (And.left (And.right (And.right (by assumption)))) | exact Nat.ne_of_gt (And.left (And.right (And.right (And.right (by assumption)))))))
  | (k_dflt (refine' append_in (own := [_, _, _, _]) ?hF ?hN ?hown ?hap ?_ ?hz); (case hF => assumption); (case hN => assumption); (case hap => assumption); (case hz => rw [sizeLine_eq]; omega); (case hown => refine ne_all4 ?_ ?_ ?_ ?_ <;> first | with_reducible assumption | exact Nat.ne_of_gt (And.left (by assumption)) | exact Nat.ne_of_gt (And.left (And.right (by assumption))) | exact Nat.ne_of_gt (And.left (And.right (And.right (by assumption)))) | exact Nat.ne_of_gt (And.left (And.right (And.right (And.right (by assumption)))))))); intro h1' F' N'; (try simp only [List.cons_append, List.nil_append] at N')))
namespace Ep_word_rows_ok
noncomputable def P (w : World) (news : Ledger) (x : Str) (t : Tok) (n : Nat) (ats : Nat → Int) (bgs : Nat → Int) (rows : Nat → Row) : Prop := ∀ (hx : x.length ≤ 1000) (hn1 : 1 ≤ n) (hn : n ≤ 10) (h0 : ats 0 = 0) (hend : ats n = x.length) (hbg : ∀ k, k < n → 0 ≤ bgs k ∧ bgs k < x.length) (hbl : ∀ k, k < n → ∀ news t u, Fn w 130 [.str x t, .int (ats k) u] news 2 (fun ok => ∀ p t1, (∀ q ∈ news, q.1 < p) → ok (.ref p) ((p, blkO (bgs k) t1) :: news))) (hrd : ∀ k, k < n → ∀ news t u, FnC w 207 [.str x t, .int (bgs k) u] news 5 (fun ok => ∀ a1 a2 o t5, RowIs (rows k) o → (∀ p ∈ news, p.1 < a1) → a1 < a2 → ok (.ref a2) ((a2, tupO [.ref a1, .int (ats (k + 1)) t5]) :: (a1, o) :: news))) (hlast : ([Str.ofString "name", Str.ofString "int", Str.ofString "rune", Str.ofString "text"].any fun x => x == (rows (n - 1)).kind) = true) (hs : rows n = ⟨Str.ofString "sign", Str.ofString ";", x.length, fun _ => .none⟩) (he : rows (n + 1) = ⟨Str.ofString "end", Str.ofString "", x.length, fun _ => .none⟩), FnC w 221 [.str x t] news 7 (fun ok => ∀ D rs c, (∀ p ∈ news, p.1 < D) → (∀ p ∈ rs, D < p.1) → rs.length = n + 2 → RowsAre rows rs → ok (.ref D) ((D, listOf (refsOf rs).toArray c) :: (rs ++ news)))
theorem ne : Nonempty (World × Ledger × Str × Tok × Nat × (Nat → Int) × (Nat → Int) × (Nat → Row)) := ⟨(wld, default, default, default, default, default, default, fun _ => ⟨default, default, 0, fun _ => .none⟩)⟩
noncomputable def d : World × Ledger × Str × Tok × Nat × (Nat → Int) × (Nat → Int) × (Nat → Row) := cex ne fun d => P d.1 d.2.1 d.2.2.1 d.2.2.2.1 d.2.2.2.2.1 d.2.2.2.2.2.1 d.2.2.2.2.2.2.1 d.2.2.2.2.2.2.2
noncomputable def w : World := d.1
noncomputable def news : Ledger := d.2.1
noncomputable def x : Str := d.2.2.1
noncomputable def t : Tok := d.2.2.2.1
noncomputable def n : Nat := d.2.2.2.2.1
noncomputable def ats : Nat → Int := d.2.2.2.2.2.1
noncomputable def bgs : Nat → Int := d.2.2.2.2.2.2.1
noncomputable def rows : Nat → Row := d.2.2.2.2.2.2.2
theorem main (hx : x.length ≤ 1000) (hn1 : 1 ≤ n) (hn : n ≤ 10) (h0 : ats 0 = 0) (hend : ats n = x.length) (hbg : ∀ k, k < n → 0 ≤ bgs k ∧ bgs k < x.length) (hbl : ∀ k, k < n → ∀ news t u, Fn w 130 [.str x t, .int (ats k) u] news 2 (fun ok => ∀ p t1, (∀ q ∈ news, q.1 < p) → ok (.ref p) ((p, blkO (bgs k) t1) :: news))) (hrd : ∀ k, k < n → ∀ news t u, FnC w 207 [.str x t, .int (bgs k) u] news 5 (fun ok => ∀ a1 a2 o t5, RowIs (rows k) o → (∀ p ∈ news, p.1 < a1) → a1 < a2 → ok (.ref a2) ((a2, tupO [.ref a1, .int (ats (k + 1)) t5]) :: (a1, o) :: news))) (hlast : ([Str.ofString "name", Str.ofString "int", Str.ofString "rune", Str.ofString "text"].any fun x => x == (rows (n - 1)).kind) = true) (hs : rows n = ⟨Str.ofString "sign", Str.ofString ";", x.length, fun _ => .none⟩) (he : rows (n + 1) = ⟨Str.ofString "end", Str.ofString "", x.length, fun _ => .none⟩) : FnC w 221 [.str x t] news 7 (fun ok => ∀ D rs c, (∀ p ∈ news, p.1 < D) → (∀ p ∈ rs, D < p.1) → rs.length = n + 2 → RowsAre rows rs → ok (.ref D) ((D, listOf (refsOf rs).toArray c) :: (rs ++ news))) := by
  refine' fnC_of_body (binds := [(Str.ofString "text", .str x t)]) ?ho ?hcd ?hb ?hl ?hc ?hR ?body ?c1 ?c2 ?c3
  (case ho => k_is)
  (case hcd => k_is)
  (case hb => rfl)
  (case hl => rfl)
  (case hc => decide)
  (case hR => exact (fun _ _ h k D rs c l1 l2 l3 l4 => h _ _ (k D rs c l1 l2 l3 l4)))
  (case c1 => rfl)
  (case c2 => rfl)
  (case c3 => rfl)
  refine bdC_eps ?_
  intro B F X N T hd hu hret
  have hx' : x.length ≤ 100000 := by omega
  refine wpC_execs_consA ?_
  repeat' ((fail_if_success (with_reducible show wpAny _ _ (exec (Stmt.For _ _ _ _ _) _) _ _ _)); (fail_if_success (with_reducible show wpAny _ _ (pyIter _) _ _ _)); (fail_if_success (with_reducible show wpAny _ _ (exec (Stmt.While _ _ _ _) _) _ _ _)); first | walk1 | (dsimp only; walk1))
  rename_i D hA lA E1 hB lB hC hD hE F1 N1
  have N2 : News _ _ hE ((D, listOf #[] 0) :: news) := news_of N1 (fun p hp => .tail _ hp)
  clear N1 lB
  refine wpC_execs_cons ?_
  refine' whileC_st (wrP rows D n) (fun c => n - c.k) (wrM ats) (wrN D news) ⟨0, _, none, none, []⟩ (by assumption) N2 ?hP ?hM ?hN ?turn
  case hP => exact ⟨Nat.zero_le _, rfl, fun i p h => (by simp at h), fun p hp => (by cases hp)⟩
  case hM =>
    funext y
    unfold wrM
    by_cases h1 : y = Str.ofString "word"
    · subst h1; rfl
    · by_cases h2 : y = Str.ofString "broken"
      · subst h2; rfl
      · by_cases h3 : y = Str.ofString "at"
        · subst h3
          simp only [if_pos rfl, if_neg h1, if_neg h2, h0]
          rfl
        · simp only [h1, h2, h3, if_false]
  case hN => rfl
  case turn =>
    rintro ⟨k, ta, bo, wo, rs⟩ h2 tk2 hP F2 N2
    have hP' := hP
    obtain ⟨p1, p2, p3, p4⟩ := hP'
    dsimp only at p1 p2 p3 p4
    change News _ _ h2 ((D, listOf (refsOf rs).toArray k) :: (rs ++ news)) at N2
    have hap : ∀ p ∈ rs ++ news, p.1 ≠ D := fun p hp => by
      rcases List.mem_append.mp hp with hp | hp
      · exact Nat.ne_of_gt (p4 p hp)
      · exact Nat.ne_of_lt (lA p hp)
    have hln : (refsOf rs).length = k := by rw [List.length_map, p2]
    by_cases hlt : k < n
    · obtain ⟨b0, b1⟩ := hbg k hlt
      have hb := hbl k hlt
      have hw := hrd k hlt
      repeat' ((fail_if_success (with_reducible show wpAny _ _ (exec (Stmt.For _ _ _ _ _) _) _ _ _)); (fail_if_success (with_reducible show wpAny _ _ (pyIter _) _ _ _)); (fail_if_success (with_reducible show wpAny _ _ (exec (Stmt.While _ _ _ _) _) _ _ _)); first | walk1 | (dsimp only; walk1))
      refine wpC_execs_consA ?_
      repeat' ((fail_if_success (with_reducible show wpAny _ _ (exec (Stmt.For _ _ _ _ _) _) _ _ _)); (fail_if_success (with_reducible show wpAny _ _ (pyIter _) _ _ _)); (fail_if_success (with_reducible show wpAny _ _ (exec (Stmt.While _ _ _ _) _) _ _ _)); first | walk1 | (dsimp only; walk1))
      rename_i pb tb lb hb1 tkb hb2 hb3 hb4 F3 N3
      have lb' : D < pb := lb _ (.head _)
      refine wpC_execs_consA ?_
      repeat' ((fail_if_success (with_reducible show wpAny _ _ (exec (Stmt.For _ _ _ _ _) _) _ _ _)); (fail_if_success (with_reducible show wpAny _ _ (pyIter _) _ _ _)); (fail_if_success (with_reducible show wpAny _ _ (exec (Stmt.While _ _ _ _) _) _ _ _)); first | walk1 | (dsimp only; walk1))
      refine wpC_execs_consA ?_
      repeat' ((fail_if_success (with_reducible show wpAny _ _ (exec (Stmt.For _ _ _ _ _) _) _ _ _)); (fail_if_success (with_reducible show wpAny _ _ (pyIter _) _ _ _)); (fail_if_success (with_reducible show wpAny _ _ (exec (Stmt.While _ _ _ _) _) _ _ _)); first | walk1 | (dsimp only; walk1))
      refine wpC_execs_consA ?_
      repeat' ((fail_if_success (with_reducible show wpAny _ _ (exec (Stmt.For _ _ _ _ _) _) _ _ _)); (fail_if_success (with_reducible show wpAny _ _ (pyIter _) _ _ _)); (fail_if_success (with_reducible show wpAny _ _ (exec (Stmt.While _ _ _ _) _) _ _ _)); first | walk1 | (dsimp only; walk1))
      refine wpC_execs_cons (wpC_Assign_Tuple (wpC_Call ?_ rfl) rfl rfl)
      repeat' ((fail_if_success (with_reducible show wpAny _ _ (exec (Stmt.For _ _ _ _ _) _) _ _ _)); (fail_if_success (with_reducible show wpAny _ _ (pyIter _) _ _ _)); (fail_if_success (with_reducible show wpAny _ _ (exec (Stmt.While _ _ _ _) _) _ _ _)); first | walk1 | (dsimp only; walk1))
      refine callWithC_K X (by k_is) (wpC_of ?_) rfl rfl
      repeat' ((fail_if_success (with_reducible show wpAny _ _ (exec (Stmt.For _ _ _ _ _) _) _ _ _)); (fail_if_success (with_reducible show wpAny _ _ (pyIter _) _ _ _)); (fail_if_success (with_reducible show wpAny _ _ (exec (Stmt.While _ _ _ _) _) _ _ _)); first | walk1 | (dsimp only; walk1))
      refine fnC_use (hw _ _ _) (by assumption) (by assumption) (by assumption) (by assumption) (by assumption) rfl (by first | exact dlt (by assumption) (by rfl) | omega) (by first | exact ult (by assumption) (by rfl) | omega) ?_
      intro a1 a2 o t5 ho la lb2 h4 tk4 F4 N4
      have la' : D < a1 := la _ (.tail _ (.head _))
      have na1 : a1 ≠ D := Nat.ne_of_gt la'
      have na2 : a2 ≠ D := Nat.ne_of_gt (Nat.lt_trans la' lb2)
      have npb : pb ≠ D := Nat.ne_of_gt lb'
      repeat' ((fail_if_success (with_reducible show wpAny _ _ (exec (Stmt.For _ _ _ _ _) _) _ _ _)); (fail_if_success (with_reducible show wpAny _ _ (pyIter _) _ _ _)); (fail_if_success (with_reducible show wpAny _ _ (exec (Stmt.While _ _ _ _) _) _ _ _)); first | walk1 | (dsimp only; walk1))
      refine wpC_of ?_
      repeat' ((fail_if_success (with_reducible show wpAny _ _ (exec (Stmt.For _ _ _ _ _) _) _ _ _)); (fail_if_success (with_reducible show wpAny _ _ (pyIter _) _ _ _)); (fail_if_success (with_reducible show wpAny _ _ (exec (Stmt.While _ _ _ _) _) _ _ _)); first | walk1 | (dsimp only; walk1))
      exact wr_end (own := [_, _, _]) (by assumption) (by assumption) (.tail _ (.head _)) hP hlt la' ho
    · obtain rfl : k = n := by omega
      clear hlt
      have hb : ∀ news t u, Fn w 130 [.str x t, .int (ats n) u] news 2 (fun ok => ∀ p t1, (∀ q ∈ news, q.1 < p) → ok (.ref p) ((p, blkO (ats n) t1) :: news)) := fun news t u => blanks_C w news x (ats n) t u hx hend
      repeat' ((fail_if_success (with_reducible show wpAny _ _ (exec (Stmt.For _ _ _ _ _) _) _ _ _)); (fail_if_success (with_reducible show wpAny _ _ (pyIter _) _ _ _)); (fail_if_success (with_reducible show wpAny _ _ (exec (Stmt.While _ _ _ _) _) _ _ _)); first | walk1 | (dsimp only; walk1))
      refine wpC_execs_consA ?_
      repeat' ((fail_if_success (with_reducible show wpAny _ _ (exec (Stmt.For _ _ _ _ _) _) _ _ _)); (fail_if_success (with_reducible show wpAny _ _ (pyIter _) _ _ _)); (fail_if_success (with_reducible show wpAny _ _ (exec (Stmt.While _ _ _ _) _) _ _ _)); first | walk1 | (dsimp only; walk1))
      rename_i pb tb lb hb1 tkb hb2 hb3 hb4 F3 N3
      have lb' : D < pb := lb _ (.head _)
      have npb : pb ≠ D := Nat.ne_of_gt lb'
      refine wpC_execs_consA ?_
      repeat' ((fail_if_success (with_reducible show wpAny _ _ (exec (Stmt.For _ _ _ _ _) _) _ _ _)); (fail_if_success (with_reducible show wpAny _ _ (pyIter _) _ _ _)); (fail_if_success (with_reducible show wpAny _ _ (exec (Stmt.While _ _ _ _) _) _ _ _)); first | walk1 | (dsimp only; walk1))
      refine wpC_execs_consA ?_
      have hne : ((refsOf rs).toArray.size != (#[] : Array Value).size) = true := by rw [List.size_toArray, hln]; simp; omega
      have h1l : 1 ≤ (refsOf rs).length := by omega
      obtain ⟨q, hq⟩ : ∃ q, rs[n - 1]? = some q := ⟨_, List.getElem?_eq_getElem (by omega)⟩
      have hlq : (refsOf rs)[(refsOf rs).length - 1]? = some (.ref q.1) := by rw [hln, List.getElem?_map, hq]; rfl
      obtain ⟨q1, q2, q3, q4, hqo⟩ := p3 _ _ hq
      have hqm : (q.1, tupO [.str (rows (n - 1)).kind q1, .str (rows (n - 1)).text q2, .int (rows (n - 1)).pos q3, (rows (n - 1)).val q4]) ∈ rs ++ news := by
        rw [← hqo]; exact List.mem_append_left _ (List.mem_of_getElem? hq)
      repeat' ((fail_if_success (with_reducible show wpAny _ _ (exec (Stmt.For _ _ _ _ _) _) _ _ _)); (fail_if_success (with_reducible show wpAny _ _ (pyIter _) _ _ _)); (fail_if_success (with_reducible show wpAny _ _ (exec (Stmt.While _ _ _ _) _) _ _ _)); first | walk1 | (dsimp only; walk1))
      rename_i E2 hE2 lE2 hF tkF D2 hG FG NG lG hH FH NH
      have nE2 : E2 ≠ D := Nat.ne_of_gt lE2.2.1
      have nD2 : D2 ≠ D := Nat.ne_of_gt lG.2.2.1
      have hln2 : (refsOf rs ++ [Value.ref D2]).length ≤ 20 := by rw [List.length_append, hln]; show n + 1 ≤ 20; omega
      refine wpC_of ?_
      repeat' ((fail_if_success (with_reducible show wpAny _ _ (exec (Stmt.For _ _ _ _ _) _) _ _ _)); (fail_if_success (with_reducible show wpAny _ _ (pyIter _) _ _ _)); (fail_if_success (with_reducible show wpAny _ _ (exec (Stmt.While _ _ _ _) _) _ _ _)); first | walk1 | (dsimp only; walk1))
      rename_i hI D3 hJ FJ NJ lJ hK FK NK
      refine wr_done (rows := rows) NK p2 p3 ?r2 ?r3 p4 lG.2.2.1 lJ.2.2.2.1 fun rs' i1 i2 i3 i4 => hret D rs' _ lA i1 i2 i3 _ _ _ FK i4
      case r2 => rw [hs, ← hend]; exact ⟨_, _, _, 0, rfl⟩
      case r3 => rw [he, ← hend]; exact ⟨_, _, _, 0, rfl⟩
end Ep_word_rows_ok
theorem word_rows_ok (w : World) (news : Ledger) (x : Str) (t : Tok) (n : Nat) (ats bgs : Nat → Int) (rows : Nat → Row) (hx : x.length ≤ 1000) (hn1 : 1 ≤ n) (hn : n ≤ 10) (h0 : ats 0 = 0) (hend : ats n = x.length) (hbg : ∀ k, k < n → 0 ≤ bgs k ∧ bgs k < x.length) (hbl : ∀ k, k < n → ∀ news t u, Fn w 130 [.str x t, .int (ats k) u] news 2 (fun ok => ∀ p t1, (∀ q ∈ news, q.1 < p) → ok (.ref p) ((p, blkO (bgs k) t1) :: news))) (hrd : ∀ k, k < n → ∀ news t u, FnC w 207 [.str x t, .int (bgs k) u] news 5 (fun ok => ∀ a1 a2 o t5, RowIs (rows k) o → (∀ p ∈ news, p.1 < a1) → a1 < a2 → ok (.ref a2) ((a2, tupO [.ref a1, .int (ats (k + 1)) t5]) :: (a1, o) :: news))) (hlast : ([Str.ofString "name", Str.ofString "int", Str.ofString "rune", Str.ofString "text"].any fun x => x == (rows (n - 1)).kind) = true) (hs : rows n = ⟨Str.ofString "sign", Str.ofString ";", x.length, fun _ => .none⟩) (he : rows (n + 1) = ⟨Str.ofString "end", Str.ofString "", x.length, fun _ => .none⟩) : FnC w 221 [.str x t] news 7 (fun ok => ∀ D rs c, (∀ p ∈ news, p.1 < D) → (∀ p ∈ rs, D < p.1) → rs.length = n + 2 → RowsAre rows rs → ok (.ref D) ((D, listOf (refsOf rs).toArray c) :: (rs ++ news))) :=
  (cex_all (ne := Ep_word_rows_ok.ne) (P := fun d : World × Ledger × Str × Tok × Nat × (Nat → Int) × (Nat → Int) × (Nat → Row) => Ep_word_rows_ok.P d.1 d.2.1 d.2.2.1 d.2.2.2.1 d.2.2.2.2.1 d.2.2.2.2.2.1 d.2.2.2.2.2.2.1 d.2.2.2.2.2.2.2) (fun hx hn1 hn h0 hend hbg hbl hrd hlast hs he => Ep_word_rows_ok.main hx hn1 hn h0 hend hbg hbl hrd hlast hs he) (w, news, x, t, n, ats, bgs, rows)) hx hn1 hn h0 hend hbg hbl hrd hlast hs he
end
namespace Ep_read_words_ok
noncomputable def P (w : World) (news : Ledger) (x : Str) (t : Tok) (D : Nat) (nr : Nat) (rows : Nat → Row) : Prop := ∀ (hD : 4 ≤ D) (hnr : nr ≤ 20) (hw : ∀ t, FnC w 221 [.str x t] news D (fun ok => ∀ D rs c, (∀ p ∈ news, p.1 < D) → (∀ p ∈ rs, D < p.1) → rs.length = nr → RowsAre rows rs → ok (.ref D) ((D, listOf (refsOf rs).toArray c) :: (rs ++ news)))), FnC w 228 [.str x t] news (D + 1) (fun ok => ∀ RL y dx rs c t1 t2 t3 t4 u, (∀ p ∈ rs ++ news, p.1 < dx) → dx < y → y < RL → rs.length = nr → RowsAre rows rs → (∀ p ∈ rs, ∀ q ∈ news, q.1 < p.1) → ok (.ref y) ((RL, listOf (refsOf rs).toArray c) :: (y, instObj 282 dx) :: (dx, dictOf (wdE w RL 0 t1 t2 t3 t4 u) 4) :: (rs ++ news)))
theorem ne : Nonempty (World × Ledger × Str × Tok × Nat × Nat × (Nat → Row)) := ⟨(wld, default, default, default, default, default, fun _ => ⟨default, default, 0, fun _ => .none⟩)⟩
noncomputable def d : World × Ledger × Str × Tok × Nat × Nat × (Nat → Row) := cex ne fun d => P d.1 d.2.1 d.2.2.1 d.2.2.2.1 d.2.2.2.2.1 d.2.2.2.2.2.1 d.2.2.2.2.2.2
noncomputable def w : World := d.1
noncomputable def news : Ledger := d.2.1
noncomputable def x : Str := d.2.2.1
noncomputable def t : Tok := d.2.2.2.1
noncomputable def D : Nat := d.2.2.2.2.1
noncomputable def nr : Nat := d.2.2.2.2.2.1
noncomputable def rows : Nat → Row := d.2.2.2.2.2.2
theorem main (hD : 4 ≤ D) (hnr : nr ≤ 20) (hw : ∀ t, FnC w 221 [.str x t] news D (fun ok => ∀ D rs c, (∀ p ∈ news, p.1 < D) → (∀ p ∈ rs, D < p.1) → rs.length = nr → RowsAre rows rs → ok (.ref D) ((D, listOf (refsOf rs).toArray c) :: (rs ++ news)))) : FnC w 228 [.str x t] news (D + 1) (fun ok => ∀ RL y dx rs c t1 t2 t3 t4 u, (∀ p ∈ rs ++ news, p.1 < dx) → dx < y → y < RL → rs.length = nr → RowsAre rows rs → (∀ p ∈ rs, ∀ q ∈ news, q.1 < p.1) → ok (.ref y) ((RL, listOf (refsOf rs).toArray c) :: (y, instObj 282 dx) :: (dx, dictOf (wdE w RL 0 t1 t2 t3 t4 u) 4) :: (rs ++ news))) := by
  refine' fnC_of_body (binds := [(Str.ofString "text", .str x t)]) ?ho ?hcd ?hb ?hl ?hc ?hR ?body ?c1 ?c2 ?c3
  (case ho => k_is)
  (case hcd => k_is)
  (case hb => rfl)
  (case hl => rfl)
  (case hc => decide)
  (case hR => exact (fun _ _ h k RL y dx rs c t1 t2 t3 t4 u l1 l2 l3 l4 l5 l6 => h _ _ (k RL y dx rs c t1 t2 t3 t4 u l1 l2 l3 l4 l5 l6)))
  (case c1 => rfl)
  (case c2 => rfl)
  (case c3 => rfl)
  refine bdC_eps ?_
  intro B F X N T hd hu hret
  refine wpC_execs_cons (wpC_Return_some (wpC_Call ?_ rfl))
  repeat' ((fail_if_success (with_reducible show wpAny _ _ (exec (Stmt.For _ _ _ _ _) _) _ _ _)); (fail_if_success (with_reducible show wpAny _ _ (pyIter _) _ _ _)); (fail_if_success (with_reducible show wpAny _ _ (exec (Stmt.While _ _ _ _) _) _ _ _)); first | walk1 | (dsimp only; walk1))
  refine callWithC_K X (by k_is) ?_ rfl rfl
  refine splicedC_cons (wpC_Call ?_ rfl)
  repeat' ((fail_if_success (with_reducible show wpAny _ _ (exec (Stmt.For _ _ _ _ _) _) _ _ _)); (fail_if_success (with_reducible show wpAny _ _ (pyIter _) _ _ _)); (fail_if_success (with_reducible show wpAny _ _ (exec (Stmt.While _ _ _ _) _) _ _ _)); first | walk1 | (dsimp only; walk1))
  refine callWithC_K X (by k_is) (wpC_of ?_) rfl rfl
  repeat' ((fail_if_success (with_reducible show wpAny _ _ (exec (Stmt.For _ _ _ _ _) _) _ _ _)); (fail_if_success (with_reducible show wpAny _ _ (pyIter _) _ _ _)); (fail_if_success (with_reducible show wpAny _ _ (exec (Stmt.While _ _ _ _) _) _ _ _)); first | walk1 | (dsimp only; walk1))
  refine fnC_use (hw _) (by assumption) (by assumption) (by assumption) (by assumption) (by assumption) rfl (by first | exact dlt (by assumption) (by rfl) | omega) (by first | exact ult (by assumption) (by rfl) | omega) ?_
  intro R0 rs c l1 l2 l3 l4 h1 tk1 F1 N1
  refine splicedC_nil ⟨?_, ?_⟩
  · exact X.keeps F1.keep
  · refine wpC_of ?_
    have hz : (refsOf rs).toArray.size ≤ 20 := by rw [List.size_toArray, List.length_map]; omega
    refine fn_use (words_new w ((R0, listOf (refsOf rs).toArray c) :: (rs ++ news)) R0 _ c hz (.head _)) (by assumption) F1 (by assumption) N1 (by assumption) rfl (by first | exact dlt (by assumption) (by rfl) | omega) (by first | exact ult (by assumption) (by rfl) | omega) ?_
    intro RL y dx c2 t1 t2 t3 t4 u m1 m2 m3 h2 tk2 F2 N2
    exact hret RL y dx rs c2 t1 t2 t3 t4 u (fun p hp => m1 p (.tail _ hp)) m2 m3 l3 l4 (fun p hp q hq => Nat.lt_trans (l1 q hq) (l2 p hp)) _ _ _ F2 (news_of N2 (fun p hp => by
      rcases List.mem_cons.mp hp with rfl | hp
      · exact .head _
      · rcases List.mem_cons.mp hp with rfl | hp
        · exact .tail _ (.head _)
        · rcases List.mem_cons.mp hp with rfl | hp
          · exact .tail _ (.tail _ (.head _))
          · exact .tail _ (.tail _ (.tail _ (.tail _ hp)))))
end Ep_read_words_ok
theorem read_words_ok (w : World) (news : Ledger) (x : Str) (t : Tok) (D : Nat) (nr : Nat) (rows : Nat → Row) (hD : 4 ≤ D) (hnr : nr ≤ 20) (hw : ∀ t, FnC w 221 [.str x t] news D (fun ok => ∀ D rs c, (∀ p ∈ news, p.1 < D) → (∀ p ∈ rs, D < p.1) → rs.length = nr → RowsAre rows rs → ok (.ref D) ((D, listOf (refsOf rs).toArray c) :: (rs ++ news)))) : FnC w 228 [.str x t] news (D + 1) (fun ok => ∀ RL y dx rs c t1 t2 t3 t4 u, (∀ p ∈ rs ++ news, p.1 < dx) → dx < y → y < RL → rs.length = nr → RowsAre rows rs → (∀ p ∈ rs, ∀ q ∈ news, q.1 < p.1) → ok (.ref y) ((RL, listOf (refsOf rs).toArray c) :: (y, instObj 282 dx) :: (dx, dictOf (wdE w RL 0 t1 t2 t3 t4 u) 4) :: (rs ++ news))) :=
  (cex_all (ne := Ep_read_words_ok.ne) (P := fun d : World × Ledger × Str × Tok × Nat × Nat × (Nat → Row) => Ep_read_words_ok.P d.1 d.2.1 d.2.2.1 d.2.2.2.1 d.2.2.2.2.1 d.2.2.2.2.2.1 d.2.2.2.2.2.2) (fun hD hnr hw => Ep_read_words_ok.main hD hnr hw) (w, news, x, t, D, nr, rows)) hD hnr hw
theorem fw_hex : ∀ d : Fin 16, figureWorth ⟨#[hexc d.val]⟩ = (d.val : Int) := by decide +kernel
theorem names_hex : ∀ d : Fin 16, Ins ⟨#[hexc d.val]⟩ NAMES true := by
  have h : ∀ d : Fin 16, (!(Builtin.Str.occurrences NAMES ⟨#[hexc d.val]⟩ 0 NAMES.length 1).isEmpty) = true := by decide +kernel
  exact h
theorem figs_hex : ∀ d : Fin 10, Ins ⟨#[hexc d.val]⟩ FIGS true ∧ Ins ⟨#[hexc d.val]⟩ NBEG false := by
  have h : ∀ d : Fin 10, (!(Builtin.Str.occurrences FIGS ⟨#[hexc d.val]⟩ 0 FIGS.length 1).isEmpty) = true ∧ (!(Builtin.Str.occurrences NBEG ⟨#[hexc d.val]⟩ 0 NBEG.length 1).isEmpty) = false := by decide +kernel
  exact h
theorem fw_lt {d : Nat} (h : d < 16) : figureWorth ⟨#[hexc d]⟩ = (d : Int) := fw_hex ⟨d, h⟩
theorem hexc_range0 : ∀ d : Fin 16, 48 ≤ hexc d.val ∧ hexc d.val ≤ 102 ∧ hexc d.val ≠ 95 ∧ hexc d.val ≠ 34 ∧ hexc d.val ≠ 92 := by decide
theorem hexc_range {d : Nat} (h : d < 16) : 48 ≤ hexc d ∧ hexc d ≤ 102 ∧ hexc d ≠ 95 ∧ hexc d ≠ 34 ∧ hexc d ≠ 92 := hexc_range0 ⟨d, h⟩
theorem hexd_item : ∀ d : Fin 16, Txt.item HEXD ((d.val : Nat) : Int) = S [hexc d.val] := by decide +kernel
theorem hexL_S (m : Nat) : ∀ k, hexL (m : Int) k = S (hxs m k)
  | 0 => show Str.ofString "" = S [] from by decide
  | k + 1 => by
    have e : ((m : Int).fdiv (16 ^ k)).fmod 16 = ((m / 16 ^ k % 16 : Nat) : Int) := by
      rw [Int.fdiv_eq_ediv_of_nonneg _ (Int.pow_nonneg (by decide)), Int.fmod_eq_emod_of_nonneg _ (by decide)]
      simp
    show Txt.item HEXD (((m : Int).fdiv (16 ^ k)).fmod 16) ++ hexL (m : Int) k = S (hexc (m / 16 ^ k % 16) :: hxs m k)
    rw [e, hexd_item ⟨_, Nat.mod_lt _ (by decide)⟩, hexL_S m k, S_append]; rfl
theorem numFold_hxs : ∀ (k n : Nat), n < 16 ^ k → numFold 16 (hxs n k) = (n : Int)
  | 0, n, h => by
    obtain rfl : n = 0 := by simpa using h
    rfl
  | k + 1, n, h => by
    rw [hxs_snoc, numFold_snoc, numFold_hxs k (n / 16) (by rw [Nat.pow_succ] at h; omega), fw_lt (Nat.mod_lt _ (by decide))]
    omega
/-- The figures of a number, by the base 10. -/
noncomputable def dec (n : Nat) : List Nat := (Nat.toDigits 10 n).map Char.toNat
theorem digitChar_dec : ∀ d : Fin 10, (Nat.digitChar d.val).toNat = hexc d.val := by decide
theorem dec_lt {n : Nat} (h : n < 10) : dec n = [hexc n] := by
  unfold dec
  rw [Nat.toDigits_of_lt_base h, List.map_singleton, digitChar_dec ⟨n, h⟩]
theorem dec_ge {n : Nat} (h : 10 ≤ n) : dec n = dec (n / 10) ++ [hexc (n % 10)] := by
  unfold dec
  rw [Nat.toDigits_of_base_le (by decide) h, List.map_append, List.map_singleton, digitChar_dec ⟨n % 10, Nat.mod_lt _ (by decide)⟩]
theorem dec_mem {n c : Nat} (h : c ∈ dec n) : ∃ d, d < 10 ∧ c = hexc d := by
  induction n using Nat.strongRecOn with
  | _ n ih =>
    by_cases hn : n < 10
    · rw [dec_lt hn] at h
      exact ⟨n, hn, List.mem_singleton.mp h⟩
    · rw [dec_ge (by omega)] at h
      rcases List.mem_append.mp h with h | h
      · exact ih _ (by omega) h
      · exact ⟨_, Nat.mod_lt _ (by decide), List.mem_singleton.mp h⟩
theorem dec_fold (n : Nat) : numFold 10 (dec n) = (n : Int) := by
  induction n using Nat.strongRecOn with
  | _ n ih =>
    by_cases hn : n < 10
    · rw [dec_lt hn]
      show 0 * 10 + figureWorth ⟨#[hexc n]⟩ = _
      rw [fw_lt (by omega)]; omega
    · rw [dec_ge (by omega), numFold_snoc, ih _ (by omega), fw_lt (by omega)]
      omega
/-- The first figure is no 0, but of 0 itself. -/
theorem dec_first (n : Nat) : ∃ d l, d < 10 ∧ dec n = hexc d :: l ∧ (d = 0 → l = []) := by
  induction n using Nat.strongRecOn with
  | _ n ih =>
    by_cases hn : n < 10
    · exact ⟨n, [], hn, dec_lt hn, fun _ => rfl⟩
    · obtain ⟨d, l, h1, h2, h3⟩ := ih (n / 10) (by omega)
      refine ⟨d, l ++ [hexc (n % 10)], h1, by rw [dec_ge (by omega), h2]; rfl, fun h0 => ?_⟩
      exfalso
      have hl := h3 h0
      rw [hl] at h2
      have f := dec_fold (n / 10)
      rw [h2, h0] at f
      have : numFold 10 [hexc 0] = 0 := by
        show 0 * 10 + figureWorth ⟨#[hexc 0]⟩ = _
        rw [fw_lt (by decide)]; rfl
      omega
theorem num_S {n : Int} (h : 0 ≤ n) : Str.ofString (toString n) = S (dec n.toNat) := by
  obtain ⟨m, rfl⟩ := Int.eq_ofNat_of_zero_le h
  exact text_ofNat m
theorem dec_len {n : Int} (h : 0 ≤ n) : (Str.ofString (toString n)).length = (dec n.toNat).length := by rw [num_S h, S_len]
noncomputable def octS (c : Nat) : Str := if 32 ≤ c ∧ c < 127 ∧ c ≠ 34 ∧ c ≠ 92 then ⟨#[c]⟩ else ⟨#[92, 120, hexc (c / 16), hexc (c % 16)]⟩
noncomputable def octsOf (b : Array UInt8) : List Nat := b.toList.map (·.toNat)
noncomputable def quoS (b : Array UInt8) : Str := Str.ofString "\"" ++ Txt.join (Str.ofString "") ((octsOf b).map octS) ++ Str.ofString "\""
noncomputable def runS (n : Int) : Str := if 32 ≤ n ∧ n < 127 ∧ n ≠ 39 ∧ n ≠ 92 then Str.ofString "'" ++ ⟨#[n.toNat]⟩ ++ Str.ofString "'" else Str.ofString "'" ++ (Str.ofString "\\U" ++ hexL n 8) ++ Str.ofString "'"
noncomputable def numS (n : Int) : Str := if (Str.ofString (toString n)).length ≤ 100 then Str.ofString (toString n) else Str.ofString "0x" ++ hexL n (Nat.toDigits 16 n.toNat).length
noncomputable def textS (b : Array UInt8) (r n : Int) : Str := Txt.join (Str.ofString ", ") [quoS b, runS r, numS n] ++ Str.ofString ", a"
theorem runeT_eq {n : Int} {y : Str} (h : RuneT n y) : y = runS n := by
  unfold runS
  rcases h with ⟨h1, h2, h3, h4, rfl⟩ | ⟨h, rfl⟩
  · rw [if_pos ⟨h1, h2, h3, h4⟩]
  · rw [if_neg (plain_not h)]
noncomputable def txt3 (b : Array UInt8) (r n : Int) : Nat → Str
  | 0 => quoS b
  | 1 => runS r
  | _ => numS n
noncomputable def knd3 : Nat → Str
  | 0 => Str.ofString "text"
  | 1 => Str.ofString "rune"
  | _ => Str.ofString "int"
noncomputable def val3 (b : Array UInt8) (r n : Int) : Nat → Tok → Value
  | 0 => .bytes b
  | 1 => .int r
  | _ => .int n
noncomputable def beg3 (b : Array UInt8) (r n : Int) : Nat → Int
  | 0 => 0
  | i + 1 => beg3 b r n i + (txt3 b r n i).length + 2
/-- The rows that the text has. -/
noncomputable def rowsOf (b : Array UInt8) (r n : Int) (j : Nat) : Row :=
  if j < 6 then (if j % 2 = 0 then ⟨knd3 (j / 2), txt3 b r n (j / 2), beg3 b r n (j / 2), val3 b r n (j / 2)⟩ else ⟨Str.ofString "sign", Str.ofString ",", beg3 b r n (j / 2) + (txt3 b r n (j / 2)).length, fun _ => .none⟩)
  else if j = 6 then ⟨Str.ofString "name", Str.ofString "a", beg3 b r n 3, fun _ => .none⟩
  else if j = 7 then ⟨Str.ofString "sign", Str.ofString ";", (textS b r n).length, fun _ => .none⟩
  else ⟨Str.ofString "end", Str.ofString "", (textS b r n).length, fun _ => .none⟩
theorem rowsOf_even (b : Array UInt8) (r n : Int) (i : Nat) (h : i < 3) : rowsOf b r n (2 * i) = ⟨knd3 i, txt3 b r n i, beg3 b r n i, val3 b r n i⟩ := by
  unfold rowsOf
  rw [if_pos (by omega), if_pos (by omega), show 2 * i / 2 = i by omega]
theorem rowsOf_odd (b : Array UInt8) (r n : Int) (i : Nat) (h : i < 3) : rowsOf b r n (2 * i + 1) = ⟨Str.ofString "sign", Str.ofString ",", beg3 b r n i + (txt3 b r n i).length, fun _ => .none⟩ := by
  unfold rowsOf
  rw [if_pos (by omega), if_neg (by omega), show (2 * i + 1) / 2 = i by omega]
theorem rows_kind (b : Array UInt8) (r n : Int) (j : Nat) (hj : j < 8) : Eqs (rowsOf b r n j).kind (Str.ofString "end") false := by
  have k : ∀ i, Eqs (knd3 i) (Str.ofString "end") false := fun i => by
    rcases i with _ | _ | i
    · show _ = _; decide
    · show _ = _; decide
    · show (Str.ofString "int" == Str.ofString "end") = false; decide
  have s : Eqs (Str.ofString "sign") (Str.ofString "end") false := by show _ = _; decide
  have a : Eqs (Str.ofString "name") (Str.ofString "end") false := by show _ = _; decide
  unfold rowsOf
  split
  · split
    · exact k _
    · exact s
  · split
    · exact a
    · split
      · exact s
      · omega
noncomputable def octL (c : Nat) : List Nat := if 32 ≤ c ∧ c < 127 ∧ c ≠ 34 ∧ c ≠ 92 then [c] else [92, 120, hexc (c / 16), hexc (c % 16)]
theorem octS_S (c : Nat) : octS c = S (octL c) := by unfold octS octL; split <;> rfl
noncomputable def quoL (b : Array UInt8) : List Nat := [34] ++ ((octsOf b).flatMap octL ++ [34])
noncomputable def runL (n : Int) : List Nat := if 32 ≤ n ∧ n < 127 ∧ n ≠ 39 ∧ n ≠ 92 then [39, n.toNat, 39] else [39, 92, 85] ++ (hxs n.toNat 8 ++ [39])
noncomputable def hexd (n : Int) : List Nat := hxs n.toNat (Nat.toDigits 16 n.toNat).length
noncomputable def numL (n : Int) : List Nat := if (dec n.toNat).length ≤ 100 then dec n.toNat else [48, 120] ++ hexd n
theorem join_flat : ∀ ls : List (List Nat), Txt.join (Str.ofString "") (ls.map S) = S ls.flatten := by
  have e0 : Str.ofString "" = S [] := by decide
  intro ls
  show Builtin.Str.glued _ _ = _
  rw [StrLaws.glued_eq_join, e0]
  induction ls with
  | nil => rfl
  | cons l r ih =>
    cases r with
    | nil => show S l = _; simp
    | cons k r =>
      show S l ++ S [] ++ Str.join (S []) ((k :: r).map S) = _
      rw [ih, S_append, S_append]; simp
theorem octs_flat (b : Array UInt8) : Txt.join (Str.ofString "") ((octsOf b).map octS) = S ((octsOf b).flatMap octL) := by
  have e : (octsOf b).map octS = ((octsOf b).map octL).map S := by rw [List.map_map]; exact List.map_congr_left fun c _ => octS_S c
  rw [e, join_flat, List.flatMap]
theorem quoS_S (b : Array UInt8) : quoS b = S (quoL b) := by
  unfold quoS quoL
  rw [octs_flat, show Str.ofString "\"" = S [34] by decide, S_append, S_append, List.append_assoc]
theorem runS_S {n : Int} (h : 0 ≤ n) : runS n = S (runL n) := by
  obtain ⟨m, rfl⟩ := Int.eq_ofNat_of_zero_le h
  unfold runS runL
  split
  · rw [show Str.ofString "'" = S [39] by decide, show (⟨#[((m : Nat) : Int).toNat]⟩ : Str) = S [((m : Nat) : Int).toNat] from rfl, S_append, S_append]; rfl
  · rw [show Str.ofString "'" = S [39] by decide, show Str.ofString "\\U" = S [92, 85] by decide, hexL_S, S_append, S_append, S_append]; rfl
theorem numS_S {n : Int} (h : 0 ≤ n) : numS n = S (numL n) := by
  obtain ⟨m, rfl⟩ := Int.eq_ofNat_of_zero_le h
  unfold numS numL hexd
  rw [num_S h, S_len]
  split
  · rfl
  · rw [show Str.ofString "0x" = S [48, 120] by decide, hexL_S, S_append]; rfl
noncomputable def textL (b : Array UInt8) (r n : Int) : List Nat := quoL b ++ ([44, 32] ++ (runL r ++ ([44, 32] ++ (numL n ++ [44, 32, 97]))))
theorem join3 (b : Array UInt8) (r n : Int) (h1 : 0 ≤ r) (h2 : 0 ≤ n) : Txt.join (Str.ofString ", ") [quoS b, runS r, numS n] = S (quoL b ++ ([44, 32] ++ (runL r ++ ([44, 32] ++ numL n)))) := by
  show Builtin.Str.glued _ _ = _
  rw [StrLaws.glued_eq_join, quoS_S, runS_S h1, numS_S h2, show Str.ofString ", " = S [44, 32] by decide]
  show S (quoL b) ++ S [44, 32] ++ (S (runL r) ++ S [44, 32] ++ S (numL n)) = _
  refine Str.ext' ?_
  show (quoL b).toArray ++ [44, 32].toArray ++ ((runL r).toArray ++ [44, 32].toArray ++ (numL n).toArray) = _
  simp
theorem textS_S (b : Array UInt8) (r n : Int) (h1 : 0 ≤ r) (h2 : 0 ≤ n) : textS b r n = S (textL b r n) := by
  unfold textS textL
  rw [join3 b r n h1 h2, show Str.ofString ", a" = S [44, 32, 97] by decide, S_append]; simp
theorem octL_len (c : Nat) : 1 ≤ (octL c).length ∧ (octL c).length ≤ 4 := by unfold octL; split <;> simp
theorem flat_len (l : List Nat) : (l.flatMap octL).length ≤ 4 * l.length := by
  induction l with
  | nil => simp
  | cons c l ih =>
    have := (octL_len c).2
    rw [List.flatMap_cons, List.length_append, List.length_cons]; omega
theorem octs_len (b : Array UInt8) : (octsOf b).length = b.size := by unfold octsOf; simp
theorem quoL_len (b : Array UInt8) (h : b.size ≤ 10) : (quoL b).length ≤ 42 := by
  have := flat_len (octsOf b)
  rw [octs_len] at this
  unfold quoL
  simp only [List.length_append, List.length_singleton]; omega
theorem runL_len (n : Int) : (runL n).length ≤ 12 := by
  unfold runL; split
  · simp
  · simp [hxs_len]
theorem hexd_len {n : Int} (h : n < 10 ^ 120) : (hexd n).length ≤ 100 := by
  unfold hexd
  rw [hxs_len]
  refine (Nat.length_toDigits_le_iff (by decide) (by decide)).mpr ?_
  have h1 : n.toNat < 10 ^ 120 := by omega
  exact Nat.lt_of_lt_of_le h1 (by decide +kernel)
theorem numL_len {n : Int} (h : n < 10 ^ 120) : (numL n).length ≤ 102 := by
  have := hexd_len h
  unfold numL; split
  · omega
  · simp only [List.length_append]; show 2 + _ ≤ _; omega
theorem quo_sum (b : Array UInt8) (hl : b.size ≤ 10) : ((((octsOf b).map octS).map (·.length)).sum ≤ 1000) ∧ (Txt.join (Str.ofString "") ((octsOf b).map octS)).length ≤ 1000 := by
  have h1 := flat_len (octsOf b)
  rw [octs_len] at h1
  constructor
  · have : ∀ l : List Nat, ((l.map octS).map (·.length)).sum ≤ 4 * l.length := by
      intro l
      induction l with
      | nil => simp
      | cons c l ih =>
        have := (octL_len c).2
        simp only [List.map_cons, List.sum_cons, List.length_cons]
        rw [octS_S, S_len]; omega
    have h2 := this (octsOf b)
    rw [octs_len] at h2
    omega
  · rw [octs_flat, S_len]; omega
theorem text_lens (b : Array UInt8) (r n : Int) (hl : b.size ≤ 10) (hr : RR r) (h0 : 0 ≤ n) (h1 : n < 10 ^ 120) : (quoS b).length ≤ 100 ∧ (runS r).length ≤ 20 ∧ (numS n).length ≤ 200 ∧ (textS b r n).length ≤ 400 ∧ (Txt.join (Str.ofString ", ") [quoS b, runS r, numS n]).length ≤ 400 := by
  have a1 := quoL_len b hl
  have a2 := runL_len r
  have a3 := numL_len h1
  rw [textS_S b r n hr.1 h0, join3 b r n hr.1 h0, quoS_S, runS_S hr.1, numS_S h0]
  unfold textL
  simp only [S_len, List.length_append, List.length_cons, List.length_nil]
  omega
theorem hx_len {n : Int} (h0 : 0 ≤ n) {k : Nat} (hk : 1 ≤ k) (h : n < 16 ^ k) : (hexd n).length ≤ k := by
  unfold hexd
  rw [hxs_len]
  refine (Nat.length_toDigits_le_iff (by decide) hk).mpr ?_
  have : ((n.toNat : Nat) : Int) < ((16 ^ k : Nat) : Int) := by
    rw [Int.toNat_of_nonneg h0]; simpa using h
  exact_mod_cast this
theorem hx_S {n : Int} (h : 0 ≤ n) : Hx n (S ([48, 120] ++ hexd n)) := hex_text h
theorem sl_S {n : Int} (h : 0 ≤ n) : Sln (S ([48, 120] ++ hexd n)) 2 (S (hexd n)) := by
  have := hex_slice h
  rw [hex_text h] at this
  exact this
theorem rj_S {n : Int} {k : Nat} (h0 : 0 ≤ n) (hk : 1 ≤ k) (h : n < 16 ^ k) : RJ (S (hexd n)) (k : Int) = S (hxs n.toNat k) := by
  refine rj_hex hk ?_
  have : ((n.toNat : Nat) : Int) < ((16 ^ k : Nat) : Int) := by
    rw [Int.toNat_of_nonneg h0]; simpa using h
  exact_mod_cast this
theorem oct_hxs {c : Nat} (h : c < 256) : [92, 120] ++ hxs c 2 = [92, 120, hexc (c / 16), hexc (c % 16)] := by
  show [92, 120, hexc (c / 16 ^ 1 % 16), hexc (c / 16 ^ 0 % 16)] = _
  rw [Nat.pow_one, Nat.pow_zero, Nat.div_one, Nat.mod_eq_of_lt (show c / 16 < 16 by omega)]
theorem quo_ok (w : World) (news : Ledger) (b : Array UInt8) (t : Tok) (h : b.size ≤ 10) : Fn w 42 [.bytes b t] news 1 (fun ok => ∀ t, ok (.str (quoS b) t) news) := by
  obtain ⟨q1, q2⟩ := quo_sum b h
  refine quoted_text_ok w news b ((octsOf b).map octS) t h (by rw [List.length_map, octs_len]) ?_ q1 q2
  intro i c y hc hy
  have e : (octsOf b)[i]? = some c.toNat := by
    unfold octsOf
    rw [List.getElem?_map, Array.getElem?_toList, hc]; rfl
  rw [List.getElem?_map, e] at hy
  have hy' : octS c.toNat = y := Option.some.inj hy
  have hc1 : c.toNat < 256 := by have := c.toNat_lt; omega
  subst hy'
  unfold OctT octS
  by_cases hp : 32 ≤ c.toNat ∧ c.toNat < 127 ∧ c.toNat ≠ 34 ∧ c.toNat ≠ 92
  · rw [if_pos hp]
    exact .inl ⟨hp.1, hp.2.1, hp.2.2.1, hp.2.2.2, rfl⟩
  · rw [if_neg hp]
    have h0 : (0 : Int) ≤ (c.toNat : Int) := by omega
    have hl := hx_len h0 (k := 2) (by decide) (by omega)
    refine .inr ⟨not_plainN hp, _, _, hx_S h0, ?_, sl_S h0, ?_, ?_, ?_⟩
    · rw [S_len, List.length_append]; show 2 + _ ≤ _; omega
    · rw [S_len]; omega
    · rw [show RJ (S (hexd (c.toNat : Int))) 2 = _ from rj_S (k := 2) h0 (by decide) (by omega), S_len, hxs_len]; decide
    · rw [show RJ (S (hexd (c.toNat : Int))) 2 = _ from rj_S (k := 2) h0 (by decide) (by omega), show Str.ofString "\\x" = S [92, 120] by decide, S_append]
      rw [show (c.toNat : Int).toNat = c.toNat from rfl, oct_hxs hc1]
theorem run_ok (w : World) (news : Ledger) (n : Int) (t : Tok) (h : RR n) : Fn w 35 [.int n t] news 1 (fun ok => ∀ t, ok (.str (runS n) t) news) := by
  obtain ⟨h0, h1, h2⟩ := h
  by_cases hp : 32 ≤ n ∧ n < 127 ∧ n ≠ 39 ∧ n ≠ 92
  · have e : runS n = Str.ofString "'" ++ ⟨#[n.toNat]⟩ ++ Str.ofString "'" := if_pos hp
    rw [e]
    exact rune_text_plain w news n t hp.1 hp.2.1 hp.2.2.1 hp.2.2.2
  · have hl := hx_len h0 (k := 8) (by decide) (by omega)
    have e : runS n = Str.ofString "'\\U" ++ RJ (S (hexd n)) 8 ++ Str.ofString "'" := by
      rw [runS_S h0, show RJ (S (hexd n)) 8 = _ from rj_S (k := 8) h0 (by decide) (by omega), show Str.ofString "'\\U" = S [39, 92, 85] by decide, show Str.ofString "'" = S [39] by decide, S_append, S_append]
      unfold runL
      rw [if_neg hp, List.append_assoc]
    rw [e]
    have k1 : (S ([48, 120] ++ hexd n)).length ≤ 1000 := by rw [S_len, List.length_append]; show 2 + _ ≤ _; omega
    have k2 : (S (hexd n)).length ≤ 1000 := by rw [S_len]; omega
    have k3 : (RJ (S (hexd n)) 8).length ≤ 1000 := by rw [show RJ (S (hexd n)) 8 = _ from rj_S (k := 8) h0 (by decide) (by omega), S_len, hxs_len]; decide
    rcases not_plain hp with c | c | c
    · exact rune_text_hex0 w news n _ _ t h0 (by omega) c (hx_S h0) k1 (sl_S h0) k2 k3
    · exact rune_text_hex1 w news n _ _ t h0 (by omega) c (hx_S h0) k1 (sl_S h0) k2 k3
    · exact rune_text_hex2 w news n _ _ t h0 (by omega) c (hx_S h0) k1 (sl_S h0) k2 k3
theorem num_ok (w : World) (news : Ledger) (n : Int) (t : Tok) (h0 : 0 ≤ n) (h1 : n < 10 ^ 120) : Fn w 28 [.int n t] news 1 (fun ok => ∀ t, ok (.str (numS n) t) news) := by
  have hl := num_len h0 h1
  by_cases hc : (Str.ofString (toString n)).length ≤ 100
  · rw [show numS n = Str.ofString (toString n) from if_pos hc]
    exact int_text_short w news n t h0 h1 hc
  · have e : numS n = Str.ofString "0x" ++ S (hexd n) := by
      rw [numS_S h0, show Str.ofString "0x" = S [48, 120] by decide, S_append]
      unfold numL
      rw [if_neg (by rw [← dec_len h0]; exact hc)]
    have hh := hexd_len h1
    rw [e]
    exact int_text_long w news n _ _ t h0 h1 (hx_S h0) (by rw [S_len, List.length_append]; show 2 + _ ≤ _; omega) (sl_S h0) (by rw [S_len]; omega) (by omega) (by omega)
theorem oct_ok (w : World) (news : Ledger) (c : Int) (t : Tok) (h0 : 0 ≤ c) (h1 : c < 256) : Fn w 314 [.int c t] news 1 (fun ok => ∀ t, ok (.str (octS c.toNat) t) news) := by
  obtain ⟨m, rfl⟩ := Int.eq_ofNat_of_zero_le h0
  by_cases hp : 32 ≤ m ∧ m < 127 ∧ m ≠ 34 ∧ m ≠ 92
  · rw [show octS ((m : Nat) : Int).toNat = ⟨#[((m : Nat) : Int).toNat]⟩ from if_pos hp]
    exact law_octet_text_plain w news m t (by omega) (by omega) (by omega) (by omega)
  · have e : octS ((m : Nat) : Int).toNat = Str.ofString "\\x" ++ Txt.item HEXD ((m : Int).fdiv 16) ++ Txt.item HEXD ((m : Int).fmod 16) := by
      rw [octS_S, show ((m : Nat) : Int).toNat = m from rfl, show Str.ofString "\\x" = S [92, 120] by decide]
      have e1 : (m : Int).fdiv 16 = ((m / 16 : Nat) : Int) := by rw [Int.fdiv_eq_ediv_of_nonneg _ (by decide)]; simp
      have e2 : (m : Int).fmod 16 = ((m % 16 : Nat) : Int) := by rw [Int.fmod_eq_emod_of_nonneg _ (by decide)]; simp
      rw [e1, e2, hexd_item ⟨m / 16, by omega⟩, hexd_item ⟨m % 16, by omega⟩, S_append, S_append]
      unfold octL
      rw [if_neg hp]; rfl
    rw [e]
    rcases not_plainN hp with c | c | c
    · exact law_octet_text_hex0 w news m t (by omega) (by omega) (by omega)
    · exact law_octet_text_hex1 w news m t (by omega) (by omega) (by omega)
    · exact law_octet_text_hex2 w news m t (by omega) (by omega) (by omega)
theorem numT_eq {n : Int} {y : Str} (h0 : 0 ≤ n) (h1 : n < 10 ^ 120) (h : NumT n y) : y = numS n := by
  rcases h with ⟨h, rfl⟩ | ⟨h, k, hk, hk2, rfl⟩
  · exact (if_pos h).symm
  · have e : numS n = Str.ofString "0x" ++ hexL n (Nat.toDigits 16 n.toNat).length := if_neg (by omega)
    rw [e]
    obtain ⟨m, rfl⟩ := Int.eq_ofNat_of_zero_le h0
    have hm : 1 ≤ m := by
      rcases Nat.eq_zero_or_pos m with rfl | hm
      · exfalso
        rw [dec_len h0] at h
        revert h; decide
      · exact hm
    have e1 : ∀ k : Nat, (m : Int).fdiv (16 ^ k) = ((m / 16 ^ k : Nat) : Int) := fun k => by
      rw [Int.fdiv_eq_ediv_of_nonneg _ (Int.pow_nonneg (by decide))]; simp
    rw [e1] at hk hk2
    have hk' : m / 16 ^ k = 0 := by omega
    have hp : 0 < 16 ^ k := Nat.pow_pos (by decide)
    have hlt : m < 16 ^ k := (Nat.div_eq_zero_iff.mp hk').resolve_left (by omega)
    have hk0 : k ≠ 0 := by
      rintro rfl
      simp at hlt; omega
    have hg : 0 < m / 16 ^ (k - 1) := by
      rcases hk2 with hk2 | hk2
      · exact absurd hk2 hk0
      · omega
    have hle : (Nat.toDigits 16 m).length ≤ k := (Nat.length_toDigits_le_iff (by decide) (by omega)).mpr hlt
    have hge : k ≤ (Nat.toDigits 16 m).length := by
      rcases Nat.lt_or_ge (Nat.toDigits 16 m).length k with hc | hc
      · exfalso
        have hpos : 0 < (Nat.toDigits 16 m).length := Nat.length_toDigits_pos
        have h3 : m < 16 ^ (k - 1) := (Nat.length_toDigits_le_iff (by decide) (by omega)).mp (by omega)
        rw [Nat.div_eq_of_lt h3] at hg
        omega
      · exact hc
    rw [show k = (Nat.toDigits 16 m).length by omega]; rfl
theorem eqS_ne {l k : List Nat} (h : l ≠ k) : Eqs (S l) (S k) false := by
  show (S l == S k) = false
  refine beq_eq_false_iff_ne.mpr fun e => h ?_
  have := congrArg (fun x : Str => x.cps.toList) e
  simpa using this
theorem eqS_rfl (x : Str) : Eqs x x true := by show (x == x) = true; exact beq_self_eq_true x
theorem slcN {x : Str} {a : Nat} {l : List Nat} {i j : Int} (h : AtL x a l) (hi : i = a) (hj : j = a + l.length) : Slc x i j (S l) := by
  subst hi
  have e : j = ((a + l.length : Nat) : Int) := by omega
  subst e
  exact h.slice rfl
theorem itmN {x : Str} {a : Nat} {c : Nat} {l : List Nat} {i : Int} (h : AtL x a (c :: l)) (hi : i = a) : Itm x i (S [c]) := by
  subst hi
  exact ⟨by omega, h.lt, h.item⟩
theorem occ_nil2 {x y : Str} {lo hi limit : Nat} (h : ∀ i, lo ≤ i → i + y.length ≤ hi → Builtin.Str.subAt x y i = false) : Builtin.Str.occurrences x y lo hi limit = [] := by
  rw [StrLaws.occ_eq]
  have key : ∀ (l : List Nat) (st : Array Nat × Nat), (∀ i ∈ l, lo ≤ i) → (forIn l st (StrLaws.occBody x y hi limit)).run.fst = st.fst := by
    intro l
    induction l with
    | nil => intro st _; rfl
    | cons a l ih =>
      intro st hl
      rw [List.forIn_cons]
      unfold StrLaws.occBody
      split
      · rename_i hc
        rw [h a (hl a (.head _)) hc.1.2] at hc
        exact absurd hc.2 Bool.false_ne_true
      · exact ih _ fun i hi => hl i (.tail _ hi)
  rw [key _ _ (fun i hi => by rw [List.mem_range'] at hi; obtain ⟨k, _, e⟩ := hi; omega)]
theorem ins_ne {c : Nat} {y : Str} (h : c ∉ y.cps.toList) : Ins (S [c]) y false := in_not (x := y) (y := S [c]) (c := c) (List.mem_singleton.mpr rfl) h
theorem two_any {c : Nat} {l : List Nat} (h : c ≠ 47) : ([Str.ofString "//", Str.ofString "/*"].any fun x => x == S (c :: l)) = false := by
  have e1 : Str.ofString "//" = S [47, 47] := by decide
  have e2 : Str.ofString "/*" = S [47, 42] := by decide
  have h1 : (S [47, 47] == S (c :: l)) = false := eqS_ne (by intro e; exact h (List.cons.inj e).1.symm)
  have h2 : (S [47, 42] == S (c :: l)) = false := eqS_ne (by intro e; exact h (List.cons.inj e).1.symm)
  rw [List.any_cons, List.any_cons, List.any_nil, e1, e2, h1, h2]; rfl
theorem three_any {c q : Nat} (h1 : c ≠ 10) (h2 : c ≠ q) {z : Str} (hz : z = S [q]) : ([Str.ofString "", Str.ofString "\n", z].any fun x => x == S [c]) = false := by
  subst hz
  have e1 : Str.ofString "" = S [] := by decide
  have e2 : Str.ofString "\n" = S [10] := by decide
  have k1 : (S [] == S [c]) = false := eqS_ne (by simp)
  have k2 : (S [10] == S [c]) = false := eqS_ne (by simp; omega)
  have k3 : (S [q] == S [c]) = false := eqS_ne (by simp; omega)
  rw [List.any_cons, List.any_cons, List.any_cons, List.any_nil, e1, e2, k1, k2, k3]; rfl
/-- What begins a word. -/
noncomputable def Begins (c : Nat) : Prop := c ≠ 32 ∧ c ≠ 9 ∧ c ≠ 13 ∧ c ≠ 10 ∧ c ≠ 47
theorem Begins.blk {c : Nat} (h : Begins c) : Ins (S [c]) BLK false := by
  refine ins_ne ?_
  rw [show BLK.cps.toList = [32, 9, 13, 10] by decide]
  obtain ⟨h1, h2, h3, h4, h5⟩ := h
  intro hc
  rcases List.mem_cons.mp hc with e | hc
  · exact h1 e
  rcases List.mem_cons.mp hc with e | hc
  · exact h2 e
  rcases List.mem_cons.mp hc with e | hc
  · exact h3 e
  rcases List.mem_cons.mp hc with e | hc
  · exact h4 e
  cases hc
theorem blk_A (w : World) {x : Str} {a c d : Nat} {l : List Nat} {i : Int} (hx : x.length ≤ 1000) (h : AtL x a (c :: d :: l)) (hc : Begins c) (hi : i = a) (news : Ledger) (t u : Tok) :
    Fn w 130 [.str x t, .int i u] news 2 (fun ok => ∀ p t1, (∀ q ∈ news, q.1 < p) → ok (.ref p) ((p, blkO i t1) :: news)) :=
  blanks_A w news x (S [c, d]) (S [c]) i t u hx (itmN h hi) hc.blk (slcN (AtL.left (l := [c, d]) h) hi (by subst hi; rfl)) (two_any hc.2.2.2.2)
theorem fromIndex_nat (n k : Nat) : fromIndex n (k : Int) = k := by
  unfold fromIndex
  rw [if_neg (by omega)]
  exact congrArg Int.toNat (Int.max_eq_right (by omega))
theorem fnd_no {x : Str} {a : Nat} {l : List Nat} {i : Int} (h : AtL x a (32 :: l)) (hi : i = a) : Fnd x (Str.ofString "\n") i (i + 1) (-1) := by
  subst hi
  have hl := h.lt
  have e1 : fromIndex x.length (a : Int) = a := fromIndex_nat _ _
  have e2 : min (fromIndex x.length ((a : Int) + 1)) x.length = a + 1 := by
    rw [show fromIndex x.length ((a : Int) + 1) = a + 1 from fromIndex_nat x.length (a + 1)]
    exact Nat.min_eq_left (by omega)
  show find4 x (Str.ofString "\n") (a : Int) ((a : Int) + 1) = -1
  unfold find4
  rw [e1, e2, show Str.ofString "\n" = S [10] by decide]
  rw [occ_nil2 (lo := a) (hi := a + 1)]
  intro j h1 h2
  have hj : j = a := by rw [S_len] at h2; simp at h2; omega
  subst hj
  rw [StrLaws.subAt_eq]
  show ((x.cps.toList.drop j).take 1 == [10]) = false
  have := (h.head).drop
  rw [show (x.cps.toList.drop j).take 1 = [32] from this]; rfl
theorem blk_B (w : World) {x : Str} {a c d : Nat} {l : List Nat} {i j : Int} (hx : x.length ≤ 1000) (h : AtL x a (32 :: c :: d :: l)) (hc : Begins c) (hi : i = a) (hj : j = i + 1) (news : Ledger) (t u : Tok) :
    Fn w 130 [.str x t, .int i u] news 2 (fun ok => ∀ p t1, (∀ q ∈ news, q.1 < p) → ok (.ref p) ((p, blkO j t1) :: news)) := by
  subst hj
  have ht := h.tail
  refine blanks_B w news x (S [c, d]) (S [c]) i t u hx (itmN h hi) (itmN ht (by omega)) hc.blk (slcN (AtL.left (l := [c, d]) ht) (by omega) ?_) (two_any hc.2.2.2.2) (fnd_no h hi)
  subst hi
  show (a : Int) + 1 + 2 = ((a + 1 : Nat) : Int) + ((2 : Nat) : Int)
  omega
theorem blk_E (w : World) {x : Str} {a c : Nat} {i j : Int} (hx : x.length ≤ 1000) (h : AtL x a [32, c]) (he : x.length = a + 2) (hc : Begins c) (hi : i = a) (hj : j = i + 1) (news : Ledger) (t u : Tok) :
    Fn w 130 [.str x t, .int i u] news 2 (fun ok => ∀ p t1, (∀ q ∈ news, q.1 < p) → ok (.ref p) ((p, blkO j t1) :: news)) := by
  subst hj
  have ht := h.tail
  refine blanks_B w news x (S [c]) (S [c]) i t u hx (itmN h hi) (itmN ht (by omega)) hc.blk ?_ (two_any hc.2.2.2.2) (fnd_no h hi)
  subst hi
  obtain ⟨p, q, e, hp⟩ := ht
  have hl : x.cps.toList.length = a + 2 := by rw [← xlen]; exact he
  have hq : q = [] := by
    have := congrArg List.length e
    rw [hl] at this
    simp at this
    exact List.eq_nil_of_length_eq_zero (by omega)
  have hd : x.cps.toList.drop (a + 1) = [c] := by rw [e, hq, ← hp]; simp
  have := AtL.over hd (by omega) (b := a + 3) (by omega)
  exact this
theorem fnC_of_fn {w : World} {f : Addr} {vs : List Value} {news : Ledger} {D D' : Nat} {R R' : Ok → Prop} (h : Fn w f vs news D R) (hD : D ≤ D') (hi : ∀ ok, R' ok → R ok) : FnC w f vs news D' R' :=
  fun mean mg mb dp un gd cn cs a ccd cl outer A₀ base h₀ L m s Q B F X N T hk hd hu hret => wpC_of (h mean mg mb dp un gd cn cs a ccd cl outer A₀ base h₀ L m s Q B F X N T hk (by omega) (by omega) (hi _ hret))
theorem fnC_weak {w : World} {f : Addr} {vs : List Value} {news : Ledger} {D D' : Nat} {R R' : Ok → Prop} (h : FnC w f vs news D R) (hD : D ≤ D') (hi : ∀ ok, R' ok → R ok) : FnC w f vs news D' R' :=
  fun mean mg mb dp un gd cn cs a ccd cl outer A₀ base h₀ L m s Q B F X N T hk hd hu hret => h mean mg mb dp un gd cn cs a ccd cl outer A₀ base h₀ L m s Q B F X N T hk (by omega) (by omega) (hi _ hret)
/-- What a read word answers. -/
noncomputable abbrev WdR (r : Row) (e : Int) (news : Ledger) (ok : Ok) : Prop := ∀ a1 a2 o t5, RowIs r o → (∀ p ∈ news, p.1 < a1) → a1 < a2 → ok (.ref a2) ((a2, tupO [.ref a1, .int e t5]) :: (a1, o) :: news)
theorem sg_facts : ∀ y ∈ SG.take 43, 1 ≤ y.length ∧ y.length ≤ 3 ∧ y.cps[0]? ≠ some 44 := by decide +kernel
theorem word_sign (w : World) {x : Str} {a d e : Nat} {l : List Nat} {i j : Int} (hx : x.length ≤ 1000) (h : AtL x a (44 :: d :: e :: l)) (hi : i = a) (hj : j = i + 1) (news : Ledger) (t u : Tok) :
    FnC w 207 [.str x t, .int i u] news 5 (WdR ⟨Str.ofString "sign", Str.ofString ",", i, fun _ => .none⟩ j news) := by
  subst hj
  have ec : Str.ofString "," = S [44] := by decide
  have h3 : AtL x a [44, d, e] := AtL.left (l := [44, d, e]) h
  have hsl : ∀ n : Nat, n ≤ 3 → Txt.slice x (some i) (some (i + (n : Int))) = S ([44, d, e].take n) := by
    intro n hn
    have hk : AtL x a ([44, d, e].take n) := AtL.left (k := [44, d, e].drop n) (by rw [List.take_append_drop]; exact h3)
    refine slcN hk hi ?_
    subst hi
    rw [List.length_take, show min n [44, d, e].length = n from by show min n 3 = n; omega]
  refine fnC_of_fn (D := 2) (read_word_sign w news x i t u 1 (fun ok => ∀ a1 a2 t1 t2 u' t3, (∀ p ∈ news, p.1 < a1) → a1 < a2 → ok (.ref a2) ((a2, tupO [.ref a1, .int (i + 1) t3]) :: (a1, tupO [.str (Str.ofString "sign") t1, .str (Str.ofString ",") t2, .int i u', .none]) :: news)) hx (by rw [ec]; exact itmN h hi) ?hR (fun t u => (read_sign_ok w news x i t u hx (by omega) ?hs ?hc).weak fun ok k a1 a2 t1 t2 t3 l1 l2 => k a1 a2 t1 t2 u t3 l1 l2)) (by decide) ?hi
  case hR => exact fun ok ok' k h a1 a2 t1 t2 u' t3 l1 l2 => k _ _ (h a1 a2 t1 t2 u' t3 l1 l2)
  case hi => exact fun ok k a1 a2 t1 t2 u' t3 l1 l2 => k a1 a2 _ t3 ⟨t1, t2, u', 0, rfl⟩ l1 l2
  case hc =>
    show Eqs (Txt.slice x (some i) (some (i + ((1 : Nat) : Int)))) (Str.ofString ",") true
    rw [hsl 1 (by decide), ec]
    exact eqS_rfl _
  case hs =>
    intro k y hk hy
    obtain ⟨f1, f2, f3⟩ := sg_facts y (by
      have : (SG.take 43)[k]? = some y := by rw [List.getElem?_take, if_pos hk]; exact hy
      exact List.mem_of_getElem? this)
    rw [hsl _ f2]
    show (_ == y) = false
    refine beq_eq_false_iff_ne.mpr fun e => f3 ?_
    rw [← e]
    obtain ⟨n, hn⟩ : ∃ n, y.length = n + 1 := ⟨y.length - 1, by omega⟩
    rw [hn]; rfl
theorem word_rune (w : World) {x : Str} {a : Nat} {l : List Nat} {i j r : Int} (hx : x.length ≤ 1000) (hr : RR r) (h : AtL x a (runL r ++ l)) (hi : i = a) (hj : j = i + (runL r).length) (news : Ledger) (t u : Tok) :
    FnC w 207 [.str x t, .int i u] news 5 (WdR ⟨Str.ofString "rune", S (runL r), i, fun t => .int r t⟩ j news) := by
  subst hj
  have eq : Str.ofString "'" = S [39] := by decide
  have eb : Str.ofString "\\" = S [92] := by decide
  have eU : Str.ofString "U" = S [85] := by decide
  obtain ⟨m, rfl⟩ := Int.eq_ofNat_of_zero_le hr.1
  have hL := AtL.left h
  by_cases hp : 32 ≤ ((m : Nat) : Int) ∧ ((m : Nat) : Int) < 127 ∧ ((m : Nat) : Int) ≠ 39 ∧ ((m : Nat) : Int) ≠ 92
  · have e : runL (m : Int) = [39, m, 39] := if_pos hp
    rw [e] at hL ⊢
    have h1 : AtL x (a + 1) [m, 39] := hL.tail
    have h2 : AtL x (a + 1 + 1) [39] := h1.tail
    refine fnC_of_fn (D := 4) (read_word_rune w news x i t u 3 _ hx (by rw [eq]; exact itmN hL hi) ?hR (fun t u => read_rune_plain w news x (S [39, m, 39]) i m t u hx (by omega) ?a1 ?a2 ?a3 ?a4 ?a5 ?a6 (eqS_rfl _) ?a7)) (by decide) ?hi
    case hR => exact fun ok ok' k h a1 a2 t1 t2 t3 t4 t5 l1 l2 => k _ _ (h a1 a2 t1 t2 t3 t4 t5 l1 l2)
    case hi =>
      intro ok k a1 a2 t1 t2 t3 t4 t5 l1 l2
      have el : i + (([39, m, 39] : List Nat).length : Int) = i + 1 + 1 + 1 := by show i + 3 = _; omega
      have := k a1 a2 _ t5 ⟨t1, t2, t3, t4, rfl⟩ l1 l2
      rw [el] at this
      exact this
    case a1 => exact slcN h1.head (by omega) (by subst hi; rfl)
    case a2 => exact three_any (by omega) (q := 39) (by omega) eq
    case a3 => exact itmN h1 (by omega)
    case a4 => rw [eb]; exact eqS_ne (by simp; omega)
    case a5 => omega
    case a6 => rw [eq]; exact slcN h2 (by omega) (by subst hi; rfl)
    case a7 => exact slcN hL hi (by subst hi; rfl)
  · have e : runL (m : Int) = [39, 92, 85] ++ (hxs m 8 ++ [39]) := if_neg hp
    rw [e] at hL ⊢
    have h1 : AtL x (a + 1) (92 :: 85 :: (hxs m 8 ++ [39])) := AtL.tail hL
    have h2 : AtL x (a + 1 + 1) (85 :: (hxs m 8 ++ [39])) := h1.tail
    have h3 : AtL x (a + 1 + 1 + 1) (hxs m 8 ++ [39]) := h2.tail
    have h4 := h3.right
    rw [hxs_len] at h4
    have hf : numFold 16 (S (hxs m 8)).cps.toList = (m : Int) := numFold_hxs 8 m (by have := hr.2.1; omega)
    have r2 := hr.2.1
    have r3 := hr.2.2
    refine fnC_of_fn (D := 5) (read_word_rune w news x i t u 4 _ hx (by rw [eq]; exact itmN (AtL.left (l := [39]) hL) hi) ?hR (fun t u => read_rune_U w news x (S ([39, 92, 85] ++ (hxs m 8 ++ [39]))) (S (hxs m 8)) i t u hx (by omega) ?a1 ?a2 (eqS_rfl _) ?a3 ?a4 ?a5 ?a6 (by rw [hf]; omega) (by rw [hf]; omega) (by rw [hf]; omega) ?a7 (eqS_rfl _) ?a8)) (by decide) ?hi
    case hR => exact fun ok ok' k h a1 a2 t1 t2 t3 t4 t5 l1 l2 => k _ _ (h a1 a2 t1 t2 t3 t4 t5 l1 l2)
    case hi =>
      intro ok k a1 a2 t1 t2 t3 t4 t5 l1 l2
      rw [hf]
      have el : i + (([39, 92, 85] ++ (hxs m 8 ++ [39])).length : Int) = i + 1 + 2 + 8 + 1 := by
        simp only [List.length_append, hxs_len, List.length_cons, List.length_nil]; omega
      have := k a1 a2 _ t5 ⟨t1, t2, t3, t4, rfl⟩ l1 l2
      rw [el] at this
      exact this
    case a1 => rw [eb]; exact slcN h1.head (by omega) (by subst hi; rfl)
    case a2 => rw [eb]; exact itmN h1 (by omega)
    case a3 => rw [eU]; exact slcN h2.head (by omega) (by subst hi; show (a : Int) + 1 + 2 = ((a + 1 + 1 : Nat) : Int) + ((1 : Nat) : Int); omega)
    case a4 => exact slcN h3.left (by omega) (by subst hi; rw [hxs_len]; omega)
    case a5 => rw [S_len, hxs_len]; rfl
    case a6 =>
      intro k c hc
      obtain ⟨d, hd, rfl⟩ := hxs_mem (List.mem_of_getElem? (show (hxs m 8)[k]? = some c by simpa using hc))
      rw [fw_lt hd]; omega
    case a7 => rw [eq]; exact slcN h4 (by omega) (by subst hi; show _ = _ + ((1 : Nat) : Int); omega)
    case a8 => exact slcN hL hi (by subst hi; simp only [List.length_append, hxs_len, List.length_cons, List.length_nil]; omega)
theorem AtL.nth {x : Str} {a k c : Nat} {l : List Nat} (h : AtL x a l) (hk : l[k]? = some c) : x.cps.toList[a + k]? = some c := by
  obtain ⟨p, q, e, hp⟩ := h
  have hl : k < l.length := (List.getElem?_eq_some_iff.mp hk).1
  rw [e, List.getElem?_append_right (by omega), hp, Nat.add_sub_cancel_left, List.getElem?_append_left hl, hk]
theorem itm_of {x : Str} {k c : Nat} {i : Int} (h : x.cps.toList[k]? = some c) (hi : i = k) : Itm x i (S [c]) := by
  subst hi
  have hl : k < x.length := by rw [xlen]; exact (List.getElem?_eq_some_iff.mp h).1
  exact ⟨by omega, by omega, item_of h⟩
noncomputable def Fig (bs : Nat) (c : Nat) : Prop := ∃ d, d < bs ∧ c = hexc d
theorem word_numG (w : World) {x : Str} {a : Nat} {ws fs l : List Nat} {i j v : Int} {bs : Nat} (hx : x.length ≤ 1000) (h : AtL x a (ws ++ 44 :: l)) (hi : i = a) (hj : j = i + ws.length)
    (hw : ∀ c ∈ ws, Ins (S [c]) NAMES true) (hw0 : ∃ d r, d < 10 ∧ ws = hexc d :: r) (hf : ∀ c ∈ fs, Fig bs c) (hf0 : ∃ d r, d < 16 ∧ fs = hexc d :: r) (hb : bs ≤ 16) (hfl : fs.length ≤ 100) (hp : NP w (S ws) (S fs) bs) (hv : numFold bs fs = v) (news : Ledger) (t u : Tok) :
    FnC w 207 [.str x t, .int i u] news 5 (WdR ⟨Str.ofString "int", S ws, i, fun t => .int v t⟩ j news) := by
  subst hv
  subst hj
  have hL := h.left
  have hR := h.right
  obtain ⟨d0, r0, hd0, ew⟩ := hw0
  obtain ⟨d1, r1, hd1, ef⟩ := hf0
  have hle := hR.lt
  have hwl : 1 ≤ ws.length := by rw [ew, List.length_cons]; omega
  have hfr : ∀ c ∈ fs, c ≠ 95 := fun c hc => by
    obtain ⟨d, hd, rfl⟩ := hf c hc
    exact (hexc_range (by omega)).2.2.1
  have hn95 : (95 : Nat) ∉ (S fs).cps.toList := by
    show 95 ∉ fs.toArray.toList
    intro hc
    exact hfr 95 (by simpa using hc) rfl
  have h0 : AtL x a (hexc d0 :: (r0 ++ 44 :: l)) := by rw [ew] at h; exact h
  have e_ : Str.ofString "_" = S [95] := by decide
  have e2 : Str.ofString "__" = S [95, 95] := by decide
  have ed : Str.ofString "." = S [46] := by decide
  have n44 : Ins (S [44]) NAMES false := by
    refine ins_ne ?_
    rw [show (44 : Nat) ∉ NAMES.cps.toList ↔ NAMES.cps.toList.contains 44 = false by simp]
    decide +kernel
  refine fnC_of_fn (D := 4) (read_word_num w news x i t u 3 _ hx (S [hexc d0]) (itmN h0 hi) (figs_hex ⟨d0, hd0⟩).2 (figs_hex ⟨d0, hd0⟩).1 ?hR (fun t u => read_number_ok w news x (S ws) (S fs) (S [hexc d1]) (S [fs.getLast (by rw [ef]; simp)]) i (i + ws.length) bs t u hx (by omega) (by omega) (by omega) ?hin ?hend ?hy hp ?f1 ?f2 ?f2' ?f3' ?f3 ?f4 ?f5 ?f6 ?f7 (by omega) (by omega) ?f8)) (by decide) ?hi
  case hR => exact fun ok ok' k h a1 a2 t1 t2 t3 t4 t5 l1 l2 => k _ _ (h a1 a2 t1 t2 t3 t4 t5 l1 l2)
  case hi =>
    intro ok k a1 a2 t1 t2 t3 t4 t5 l1 l2
    have := k a1 a2 _ t5 ⟨t1, t2, t3, t4, rfl⟩ l1 l2
    simpa using this
  case hin =>
    intro k k1 k2
    obtain ⟨m, rfl⟩ : ∃ m : Nat, k = i + (m : Int) := ⟨(k - i).toNat, by omega⟩
    have hm : m < ws.length := by omega
    have hc : ws[m]? = some ws[m] := List.getElem?_eq_getElem hm
    exact ⟨_, itm_of (hL.nth hc) (by omega), hw _ (List.mem_of_getElem? hc)⟩
  case hend => exact .inr ⟨_, itmN hR (by omega), n44⟩
  case hy => exact slcN hL hi (by omega)
  case f1 => rw [show Str.ofString "" = S [] by decide]; exact eqS_ne (by rw [ef]; simp)
  case f2 => exact itmN (a := 0) (l := r1) (by rw [ef]; exact AtL.refl _) rfl
  case f2' => rw [e_]; exact eqS_ne (by have := (hexc_range hd1).2.2.1; simp; omega)
  case f3' =>
    refine ⟨?_, by decide, item_lastL (n := fs.length - 1) ?_ ?_⟩
    · rw [S_len, ef, List.length_cons]; omega
    · rw [S_len, ef, List.length_cons]; omega
    · show fs.toArray.toList[fs.length - 1]? = some (fs.getLast _)
      rw [List.getLast_eq_getElem, List.getElem?_eq_getElem (by simp; rw [ef, List.length_cons]; omega)]
  case f3 =>
    rw [e_]
    refine eqS_ne ?_
    have := hfr _ (List.getLast_mem (l := fs) (by rw [ef]; simp))
    simpa using this
  case f4 => rw [e2]; exact in_not (x := S fs) (y := S [95, 95]) (c := 95) (List.mem_cons_self) hn95
  case f5 => rw [S_len]; exact hfl
  case f6 => rw [e_]; exact replace_not (c := 95) (List.mem_cons_self) hn95
  case f7 =>
    intro k c hc
    obtain ⟨d, hd, rfl⟩ := hf c (List.mem_of_getElem? (show fs[k]? = some c by simpa using hc))
    rw [fw_lt (by omega)]; omega
  case f8 =>
    rw [show Txt.slice x (some (i + ws.length)) (some (i + ws.length + 1)) = S [44] from slcN hR.head (by omega) (by subst hi; show _ = _ + ((1 : Nat) : Int); omega), ed]
    exact eqS_ne (by decide)
theorem look1 : ∀ d : Fin 10, (PySem.Spec.lookup (.str (Txt.lower (S [hexc d.val]))) D107).isNone = true := by decide +kernel
theorem look2 : ∀ d e : Fin 10, (PySem.Spec.lookup (.str (Txt.lower (S [hexc d.val, hexc e.val]))) D107).isNone = true := by decide +kernel
theorem names_of {c : Nat} (h : ∃ d, d < 16 ∧ c = hexc d) : Ins (S [c]) NAMES true := by
  obtain ⟨d, hd, rfl⟩ := h
  exact names_hex ⟨d, hd⟩
theorem np_dec (w : World) (n : Nat) (hl : (dec n).length ≤ 1000) : NP w (S (dec n)) (S (dec n)) 10 := by
  intro news t
  obtain ⟨d, l, h1, h2, h3⟩ := dec_first n
  refine number_parts_dec w news (S (dec n)) t (by rw [S_len]; exact hl) ?_ ?_
  · show PySem.Spec.lookup _ D107 = none
    cases l with
    | nil =>
      rw [show Txt.slice (S (dec n)) none (some 2) = S (dec n) from slice_to_over (b := 2) _ (by rw [S_len, h2]; exact Nat.le_succ 1), h2]
      exact Option.isNone_iff_eq_none.mp (look1 ⟨d, h1⟩)
    | cons e l =>
      obtain ⟨e', he, rfl⟩ : ∃ e', e' < 10 ∧ e = hexc e' := dec_mem (n := n) (by rw [h2]; exact .tail _ (.head _))
      rw [show Txt.slice (S (dec n)) none (some 2) = _ from slice_to (b := 2) _ (by rw [S_len, h2, List.length_cons, List.length_cons]; omega), h2]
      exact Option.isNone_iff_eq_none.mp (look2 ⟨d, h1⟩ ⟨e', he⟩)
  · cases l with
    | nil => left; rw [S_len, h2]; exact Int.le_refl 1
    | cons e l =>
      right
      refine ⟨S [hexc d], itmN (a := 0) (l := e :: l) (by rw [h2]; exact AtL.refl _) rfl, ?_⟩
      rw [show Str.ofString "0" = S [48] by decide]
      refine eqS_ne ?_
      have hd : d ≠ 0 := fun e => by have := h3 e; cases this
      have : hexc d ≠ 48 := by unfold hexc; split <;> omega
      simpa using this
theorem look0x : PySem.Spec.lookup (.str (Txt.lower (S [48, 120]))) D107 = some (.int 16) := by kernel_rfl
theorem np_hex (w : World) {d : Nat} {r : List Nat} (hd : d < 16) (hl : r.length ≤ 900) : NP w (S ([48, 120] ++ hexc d :: r)) (S (hexc d :: r)) 16 := by
  intro news t
  refine number_parts_hex w news (S ([48, 120] ++ hexc d :: r)) (S (hexc d :: r)) t ?_ ?_ ?_ ?_
  · rw [S_len]; simp; omega
  · show PySem.Spec.lookup _ D107 = some (.int 16)
    rw [show Txt.slice (S ([48, 120] ++ hexc d :: r)) none (some 2) = _ from slice_to (b := 2) _ (by rw [S_len]; simp)]
    exact look0x
  · have h2 : AtL (S ([48, 120] ++ hexc d :: r)) 2 (hexc d :: r) := (AtL.refl ([48, 120] ++ hexc d :: r)).right
    rw [show Txt.slice (S ([48, 120] ++ hexc d :: r)) (some 2) (some 3) = S [hexc d] from slcN h2.head rfl rfl, show Str.ofString "_" = S [95] by decide]
    refine eqS_ne ?_
    have := (hexc_range hd).2.2.1
    simpa using this
  · exact slice_from (a := 2) _ (by rw [S_len]; simp)
theorem numL_first {n : Int} : ∃ d r, d < 10 ∧ numL n = hexc d :: r := by
  unfold numL
  split
  · obtain ⟨d, l, h1, h2, -⟩ := dec_first n.toNat
    exact ⟨d, l, h1, h2⟩
  · exact ⟨0, _, by decide, rfl⟩
theorem word_num (w : World) {x : Str} {a : Nat} {l : List Nat} {i j n : Int} (hx : x.length ≤ 1000) (h0 : 0 ≤ n) (h1 : n < 10 ^ 120) (h : AtL x a (numL n ++ 44 :: l)) (hi : i = a) (hj : j = i + (numL n).length) (news : Ledger) (t u : Tok) :
    FnC w 207 [.str x t, .int i u] news 5 (WdR ⟨Str.ofString "int", S (numL n), i, fun t => .int n t⟩ j news) := by
  by_cases hc : (dec n.toNat).length ≤ 100
  · have e : numL n = dec n.toNat := if_pos hc
    rw [e] at h hj ⊢
    obtain ⟨d, l', q1, q2, -⟩ := dec_first n.toNat
    refine word_numG (fs := dec n.toNat) (bs := 10) w hx h hi hj (fun c hc => names_of ?_) ⟨d, l', q1, q2⟩ (fun c hc => dec_mem hc) ⟨d, l', by omega, q2⟩ (by decide) hc (np_dec w _ (by omega)) (by have := dec_fold n.toNat; show numFold 10 _ = _; rw [this]; omega) news t u
    obtain ⟨d, hd, e⟩ := dec_mem hc
    exact ⟨d, by omega, e⟩
  · have e : numL n = [48, 120] ++ hexd n := if_neg hc
    rw [e] at h hj ⊢
    have hl := hexd_len h1
    obtain ⟨d, r, hd, er⟩ : ∃ d r, d < 16 ∧ hexd n = hexc d :: r := by
      have hp : 0 < (hexd n).length := by unfold hexd; rw [hxs_len]; exact Nat.length_toDigits_pos
      cases hh : hexd n with
      | nil => rw [hh] at hp; cases hp
      | cons c r =>
        obtain ⟨d, hd, e⟩ := hxs_mem (n := n.toNat) (k := (Nat.toDigits 16 n.toNat).length) (c := c) (by show c ∈ hexd n; rw [hh]; exact .head _)
        exact ⟨d, r, hd, by rw [e]⟩
    refine word_numG (fs := hexd n) (bs := 16) w hx h hi hj (fun c hc => ?_) ⟨0, 120 :: hexd n, by decide, rfl⟩ (fun c hc => hxs_mem hc) ⟨d, r, hd, er⟩ (by decide) hl ?_ ?_ news t u
    · rcases List.mem_append.mp hc with hc | hc
      · rcases List.mem_cons.mp hc with rfl | hc
        · exact names_hex ⟨0, by decide⟩
        · rw [List.mem_singleton.mp hc]
          show _ = _
          decide +kernel
      · exact names_of (hxs_mem hc)
    · rw [er] at hl ⊢
      exact np_hex w hd (by rw [List.length_cons] at hl; omega)
    · have := numFold_hxs (Nat.toDigits 16 n.toNat).length n.toNat (toDigits_lt _)
      show numFold 16 (hxs n.toNat (Nat.toDigits 16 n.toNat).length) = n
      rw [this]; omega
theorem word_name (w : World) {x : Str} {a : Nat} {i j : Int} (hx : x.length ≤ 1000) (h : AtL x a [97]) (he : x.length = a + 1) (hi : i = a) (hj : j = i + 1) (news : Ledger) (t u : Tok) :
    FnC w 207 [.str x t, .int i u] news 5 (WdR ⟨Str.ofString "name", Str.ofString "a", i, fun _ => .none⟩ j news) := by
  subst hj
  have ea : Str.ofString "a" = S [97] := by decide
  refine fnC_of_fn (D := 2) (read_word_name w news x i t u hx (by rw [ea]; exact itmN h hi) (by omega) (by rw [ea]; exact slcN h hi (by subst hi; rfl))) (by decide) ?_
  exact fun ok k a1 a2 t1 t2 t3 l1 l2 => k a1 a2 _ t3 ⟨t1, t2, u, 0, rfl⟩ l1 l2
theorem oct_split (l : List Nat) {i c : Nat} (h : l[i]? = some c) : l.flatMap octL = (l.take i).flatMap octL ++ (octL c ++ (l.drop (i + 1)).flatMap octL) := by
  obtain ⟨hi, e⟩ := List.getElem?_eq_some_iff.mp h
  have : l = l.take i ++ (c :: l.drop (i + 1)) := by
    rw [← e, List.getElem_cons_drop, List.take_append_drop]
  conv => lhs; rw [this]
  rw [List.flatMap_append, List.flatMap_cons]
theorem oct_take (l : List Nat) {i c : Nat} (h : l[i]? = some c) : ((l.take (i + 1)).flatMap octL).length = ((l.take i).flatMap octL).length + (octL c).length := by
  rw [List.take_add_one, h, List.flatMap_append, List.length_append]
  simp
theorem byte_oct (b : Array UInt8) : byteArr ((octsOf b).map fun c : Nat => (c : Int)) = b := by
  unfold byteArr octsOf
  rw [List.map_map, List.map_map]
  have : ∀ l : List UInt8, l.map ((fun n : Int => n.toNat.toUInt8) ∘ (fun c : Nat => (c : Int)) ∘ fun x : UInt8 => x.toNat) = l := by
    intro l
    induction l with
    | nil => rfl
    | cons c l ih =>
      rw [List.map_cons, ih]
      show (c.toNat.toUInt8 : UInt8) :: l = c :: l
      rw [Nat.toUInt8_eq, UInt8.ofNat_toNat]
  exact congrArg List.toArray (this b.toList) |>.trans (by simp)
theorem oct_lt {b : Array UInt8} {i c : Nat} (h : (octsOf b)[i]? = some c) : c < 256 := by
  unfold octsOf at h
  rw [List.getElem?_map] at h
  cases hb : b.toList[i]? with
  | none => rw [hb] at h; cases h
  | some d =>
    rw [hb] at h
    have e : d.toNat = c := Option.some.inj h
    have := d.toNat_lt
    omega
theorem qi_of {x : Str} {a c : Nat} {l : List Nat} {i j : Int} (hc : c < 256) (h : AtL x a (octL c ++ l)) (hi : i = a) (hj : j = i + (octL c).length) : QI x i (c : Int) j := by
  subst hj
  have eb : Str.ofString "\\" = S [92] := by decide
  unfold octL at h ⊢
  by_cases hp : 32 ≤ c ∧ c < 127 ∧ c ≠ 34 ∧ c ≠ 92
  · rw [if_pos hp] at h ⊢
    refine .inl ⟨c, rfl, by omega, itmN h hi, slcN h.left hi (by subst hi; rfl), ?_, three_any (by omega) (q := 34) (by omega) (by decide), rfl⟩
    rw [eb]; exact eqS_ne (by simp; omega)
  · rw [if_neg hp] at h ⊢
    have h1 : AtL x (a + 1) (120 :: hexc (c / 16) :: hexc (c % 16) :: l) := AtL.tail h
    have h2 : AtL x (a + 1 + 1) ([hexc (c / 16), hexc (c % 16)] ++ l) := h1.tail
    have r1 : c / 16 < 16 := by omega
    have r2 : c % 16 < 16 := by omega
    have hf : numFold 16 [hexc (c / 16), hexc (c % 16)] = (c : Int) := by
      show (0 * 16 + figureWorth ⟨#[hexc (c / 16)]⟩) * 16 + figureWorth ⟨#[hexc (c % 16)]⟩ = _
      rw [fw_lt r1, fw_lt r2]; omega
    refine .inr ⟨by rw [eb]; exact itmN h hi, by rw [eb]; exact slcN h.head hi (by subst hi; rfl), ?_, S [hexc (c / 16), hexc (c % 16)], slcN h2.left (by omega) (by subst hi; show (a : Int) + 2 + 2 = ((a + 1 + 1 : Nat) : Int) + ((2 : Nat) : Int); omega), by rw [S_len]; rfl, ?_, hf, by omega, by omega, ?_⟩
    · rw [show Str.ofString "x" = S [120] by decide]
      exact slcN h1.head (by omega) (by subst hi; show (a : Int) + 2 = ((a + 1 : Nat) : Int) + ((1 : Nat) : Int); omega)
    · intro k e he
      have hm : e ∈ [hexc (c / 16), hexc (c % 16)] := List.mem_of_getElem? (show [hexc (c / 16), hexc (c % 16)][k]? = some e by simpa using he)
      rcases List.mem_cons.mp hm with rfl | hm
      · rw [fw_lt r1]; omega
      · rw [List.mem_singleton.mp hm, fw_lt r2]; omega
    · show i + 4 = i + 2 + 2; omega
theorem word_text (w : World) {x : Str} {a : Nat} {l : List Nat} {i j : Int} {b : Array UInt8} (hx : x.length ≤ 1000) (hb : b.size ≤ 10) (h : AtL x a (quoL b ++ l)) (hi : i = a) (hj : j = i + (quoL b).length) (news : Ledger) (t u : Tok) :
    FnC w 207 [.str x t, .int i u] news 5 (WdR ⟨Str.ofString "text", S (quoL b), i, fun t => .bytes b t⟩ j news) := by
  subst hj
  have eq : Str.ofString "\"" = S [34] := by decide
  have hL := h.left
  have h1 : AtL x (a + 1) ((octsOf b).flatMap octL ++ [34]) := AtL.tail hL
  have hol := octs_len b
  have hE : ((octsOf b).take (octsOf b).length).flatMap octL = (octsOf b).flatMap octL := by rw [List.take_length]
  refine fnC_weak (D := 5) (read_word_text w news x i t u 4 _ hx (by rw [eq]; exact itmN (AtL.left (l := [34]) hL) hi) ?hR (fun t u => read_quoted_ok w news x (S (quoL b)) i ((octsOf b).map fun c : Nat => (c : Int)) (fun k => i + 1 + (((octsOf b).take k).flatMap octL).length) t u hx (by omega) ?hp0 ?hos ?hpos ?hit ?hq ?hy)) (by decide) ?hi
  case hR => exact fun ok ok' k h a1 a2 t1 t2 t3 t4 t5 l1 l2 => k _ _ (h a1 a2 t1 t2 t3 t4 t5 l1 l2)
  case hi =>
    intro ok k a1 a2 t1 t2 t3 t4 t5 l1 l2
    rw [byte_oct]
    have := k a1 a2 _ t5 ⟨t1, t2, t3, t4, rfl⟩ l1 l2
    have el : i + 1 + ((((octsOf b).take ((octsOf b).map fun c : Nat => (c : Int)).length).flatMap octL).length : Int) + 1 = i + (quoL b).length := by
      rw [List.length_map, hE]
      unfold quoL
      simp only [List.length_append, List.length_singleton]; omega
    rw [el]
    exact this
  case hp0 => simp
  case hos => rw [List.length_map]; omega
  case hpos => intro k; omega
  case hit =>
    intro k o ho
    rw [List.getElem?_map] at ho
    obtain ⟨c, hc, rfl⟩ := Option.map_eq_some_iff.mp ho
    rw [oct_split _ hc, List.append_assoc, List.append_assoc] at h1
    have h2 := h1.right
    refine qi_of (oct_lt hc) h2 (by omega) ?_
    rw [oct_take _ hc]; omega
  case hq =>
    rw [List.length_map, hE, eq]
    exact slcN h1.right (by omega) (by subst hi; show _ = _ + ((1 : Nat) : Int); omega)
  case hy =>
    rw [List.length_map, hE]
    refine slcN hL hi ?_
    unfold quoL
    simp only [List.length_append, List.length_singleton]; omega
noncomputable def bgsN (q r n : Nat) : Nat → Nat
  | 0 => 0
  | 1 => q
  | 2 => q + 2
  | 3 => q + 2 + r
  | 4 => q + 2 + r + 2
  | 5 => q + 2 + r + 2 + n
  | _ => q + 2 + r + 2 + n + 2
noncomputable def atsN (q r n : Nat) : Nat → Nat
  | 0 => 0
  | 1 => q
  | 2 => q + 1
  | 3 => q + 2 + r
  | 4 => q + 2 + r + 1
  | 5 => q + 2 + r + 2 + n
  | 6 => q + 2 + r + 2 + n + 1
  | _ => q + 2 + r + 2 + n + 3
theorem row_eq {k k' : Str} {y y' : Str} {p p' : Int} {v v' : Tok → Value} (h1 : k = k') (h2 : y = y') (h3 : p = p') (h4 : v = v') : (⟨k, y, p, v⟩ : Row) = ⟨k', y', p', v'⟩ := by rw [h1, h2, h3, h4]
theorem words_ok (w : World) (news : Ledger) (b : Array UInt8) (r n : Int) (t : Tok) (hl : b.size ≤ 10) (hr : RR r) (h0 : 0 ≤ n) (h1 : n < 10 ^ 120) :
    FnC w 228 [.str (textS b r n) t] news 8 (fun ok => ∀ RL y dx rs c t1 t2 t3 t4 u, (∀ p ∈ rs ++ news, p.1 < dx) → dx < y → y < RL → rs.length = 9 → RowsAre (rowsOf b r n) rs → (∀ p ∈ rs, ∀ q ∈ news, q.1 < p.1) → ok (.ref y) ((RL, listOf (refsOf rs).toArray c) :: (y, instObj 282 dx) :: (dx, dictOf (wdE w RL 0 t1 t2 t3 t4 u) 4) :: (rs ++ news))) := by
  have hq := quoL_len b hl
  have hrl := runL_len r
  have hnl := numL_len h1
  have eX := textS_S b r n hr.1 h0
  have eq := quoS_S b
  have er := runS_S hr.1
  have en := numS_S h0
  have lq : (quoS b).length = (quoL b).length := by rw [eq, S_len]
  have lr : (runS r).length = (runL r).length := by rw [er, S_len]
  have ln : (numS n).length = (numL n).length := by rw [en, S_len]
  have b1 : beg3 b r n 1 = ((quoL b).length + 2 : Nat) := by show 0 + ((quoS b).length : Int) + 2 = _; rw [lq]; omega
  have b2 : beg3 b r n 2 = ((quoL b).length + 2 + (runL r).length + 2 : Nat) := by show beg3 b r n 1 + ((runS r).length : Int) + 2 = _; rw [b1, lr]; omega
  have b3 : beg3 b r n 3 = ((quoL b).length + 2 + (runL r).length + 2 + (numL n).length + 2 : Nat) := by show beg3 b r n 2 + ((numS n).length : Int) + 2 = _; rw [b2, ln]; omega
  have T0 : AtL (textS b r n) 0 (quoL b ++ ([44, 32] ++ (runL r ++ ([44, 32] ++ (numL n ++ [44, 32, 97]))))) := by rw [eX]; exact AtL.refl _
  have xl : (textS b r n).length = (quoL b).length + 2 + (runL r).length + 2 + (numL n).length + 3 := by
    rw [eX, S_len]; unfold textL
    simp only [List.length_append, List.length_cons, List.length_nil]; omega
  have h7 : rowsOf b r n 7 = ⟨Str.ofString "sign", Str.ofString ";", (textS b r n).length, fun _ => .none⟩ := rfl
  have h8 : rowsOf b r n (7 + 1) = ⟨Str.ofString "end", Str.ofString "", (textS b r n).length, fun _ => .none⟩ := rfl
  generalize textS b r n = x at *
  have T1 := T0.right
  rw [Nat.zero_add] at T1
  have T2 := T1.right
  have T3 := T2.right
  have T4 := T3.right
  have T5 := T4.right
  simp only [List.length_cons, List.length_nil] at T2 T3 T4 T5
  have hx : x.length ≤ 1000 := by omega
  obtain ⟨cr, rr, hcr⟩ : ∃ c l, runL r = 39 :: c :: l := by
    unfold runL
    split
    · exact ⟨_, _, rfl⟩
    · exact ⟨_, _, rfl⟩
  obtain ⟨dn, rn, hdn, hcn⟩ := numL_first (n := n)
  obtain ⟨cq, rq, hcq⟩ : ∃ c l, quoL b = 34 :: c :: l := by
    unfold quoL
    cases hh : (octsOf b).flatMap octL with
    | nil => exact ⟨34, [], rfl⟩
    | cons c l => exact ⟨c, l ++ [34], rfl⟩
  obtain ⟨dd, ll, hdl⟩ : ∃ c l, rn ++ [44, 32, 97] = c :: l := by
    cases rn with
    | nil => exact ⟨_, _, rfl⟩
    | cons c l => exact ⟨_, _, rfl⟩
  have B34 : Begins 34 := by unfold Begins; omega
  have B44 : Begins 44 := by unfold Begins; omega
  have B39 : Begins 39 := by unfold Begins; omega
  have B97 : Begins 97 := by unfold Begins; omega
  have Bdn : Begins (hexc dn) := by
    have := hexc_range (show dn < 16 by omega)
    unfold Begins; omega
  refine read_words_ok w news x t 7 9 (rowsOf b r n) (by decide) (by decide) fun t => word_rows_ok w news x t 7 (fun k => (atsN (quoL b).length (runL r).length (numL n).length k : Int)) (fun k => (bgsN (quoL b).length (runL r).length (numL n).length k : Int)) (rowsOf b r n) hx (by decide) (by decide) rfl ?hend ?hbg ?hbl ?hrd ?hlast ?hs ?he
  case hend => show ((_ : Nat) : Int) = _; rw [xl]; rfl
  case hbg =>
    intro k hk
    have hc := congrArg List.length hcn
    rw [List.length_cons] at hc
    rw [xl]
    rcases k with _ | _ | _ | _ | _ | _ | _ | k
    all_goals first | omega | (simp only [bgsN]; omega)
  case hlast => rfl
  case hs => exact h7
  case he => exact h8
  case hbl =>
    intro k hk news t u
    rcases k with _ | _ | _ | _ | _ | _ | _ | k
    · exact blk_A w hx (a := 0) (by rw [hcq] at T0; exact T0) B34 rfl news t u
    · exact blk_A w hx T1 B44 rfl news t u
    · exact blk_B w hx (a := (quoL b).length + 1) (by have := AtL.tail T1; rw [hcr] at this; exact this) B39 rfl rfl news t u
    · exact blk_A w hx T3 B44 rfl news t u
    · exact blk_B w hx (a := (quoL b).length + 2 + (runL r).length + 1) (c := hexc dn) (d := dd) (l := ll) (by
        have := AtL.tail T3; rw [hcn] at this
        rw [← hdl]
        exact this) Bdn rfl rfl news t u
    · exact blk_A w hx T5 B44 rfl news t u
    · exact blk_E w hx (a := (quoL b).length + 2 + (runL r).length + 2 + (numL n).length + 1) (AtL.tail T5) (by omega) B97 rfl rfl news t u
    · omega
  case hrd =>
    intro k hk news t u
    rcases k with _ | _ | _ | _ | _ | _ | _ | k
    · have e : rowsOf b r n 0 = ⟨Str.ofString "text", S (quoL b), ((0 : Nat) : Int), fun t => .bytes b t⟩ := row_eq rfl eq rfl rfl
      rw [e]
      exact word_text w hx hl T0 rfl (by show ((quoL b).length : Int) = 0 + _; omega) news t u
    · have e : rowsOf b r n 1 = ⟨Str.ofString "sign", Str.ofString ",", (((quoL b).length : Nat) : Int), fun _ => .none⟩ := row_eq rfl rfl (by show 0 + ((quoS b).length : Int) = _; rw [lq]; omega) rfl
      rw [e]
      exact word_sign w hx (by rw [hcr] at T1; exact T1) rfl rfl news t u
    · have e : rowsOf b r n 2 = ⟨Str.ofString "rune", S (runL r), (((quoL b).length + 2 : Nat) : Int), fun t => .int r t⟩ := row_eq rfl er b1 rfl
      rw [e]
      exact word_rune w hx hr T2 rfl (by show (((quoL b).length + 2 + (runL r).length : Nat) : Int) = _; omega) news t u
    · have e : rowsOf b r n 3 = ⟨Str.ofString "sign", Str.ofString ",", (((quoL b).length + 2 + (runL r).length : Nat) : Int), fun _ => .none⟩ := row_eq rfl rfl (by show beg3 b r n 1 + ((runS r).length : Int) = _; rw [b1, lr]; omega) rfl
      rw [e]
      exact word_sign w hx (by rw [hcn] at T3; exact T3) rfl rfl news t u
    · have e : rowsOf b r n 4 = ⟨Str.ofString "int", S (numL n), (((quoL b).length + 2 + (runL r).length + 2 : Nat) : Int), fun t => .int n t⟩ := row_eq rfl en b2 rfl
      rw [e]
      exact word_num w hx h0 h1 T4 rfl (by show (((quoL b).length + 2 + (runL r).length + 2 + (numL n).length : Nat) : Int) = _; omega) news t u
    · have e : rowsOf b r n 5 = ⟨Str.ofString "sign", Str.ofString ",", (((quoL b).length + 2 + (runL r).length + 2 + (numL n).length : Nat) : Int), fun _ => .none⟩ := row_eq rfl rfl (by show beg3 b r n 2 + ((numS n).length : Int) = _; rw [b2, ln]; omega) rfl
      rw [e]
      exact word_sign w hx T5 rfl rfl news t u
    · have e : rowsOf b r n 6 = ⟨Str.ofString "name", Str.ofString "a", (((quoL b).length + 2 + (runL r).length + 2 + (numL n).length + 2 : Nat) : Int), fun _ => .none⟩ := row_eq rfl rfl b3 rfl
      rw [e]
      exact word_name w hx (AtL.tail (AtL.tail T5)) (by omega) rfl rfl news t u
    · omega
theorem wpAny_gate {α : Type} {M : Model} {A : Around} {t : Sem α} {d : α} {Q : α → Shared → Prop} {E : Value → Shared → Prop} {s : Shared}
    (h : wpC M A t Q E s) (h2 : Q d s) : wpAny M A (gate t d) Q E s := by
  intro Γ p hΓ
  rw [wp_gate]
  split
  · rename_i hb
    refine h Γ p hΓ ?_
    unfold atBottom at hb
    cases hl : Γ.below with
    | nil =>
      rw [hl] at hb
      cases hc : Γ.code with
      | builtin id as =>
        rw [hc] at hb
        have hid : id = "claim.caller" := eq_of_beq hb
        subst hid
        exact ⟨by rw [hc]; show holderIds.contains "claim.caller" = false; decide, by rw [hl]; intro x hx; cases hx⟩
      | _ => rw [hc] at hb; cases hb
    | cons x l =>
      rw [hl] at hb
      exfalso
      cases hc : Γ.code <;> rw [hc] at hb <;> exact Bool.noConfusion (hb : false = true)
  · exact h2
theorem head_entry {w : World} {name qual : Str} {params : Arguments} {body : List Stmt} {scope : Scope} {dV kV doc pm cdv ct oc : Value} {an od : Option Addr} {osl : Array (Option Value)} {f : Addr} {vs : List Value} {binds : List (Str × Value)} {mean : ExcName → Option Value} {mg mb : Str → Option Value} {s : Shared} {Q : Value → Shared → Prop}
    (ho : (Mine.fr.heap_1 w.params).lookup f = some ⟨oc, od, .func (fnOf name qual params body scope dV kV doc pm an cdv ct), osl⟩) (hcd : codeIn (Mine.fr.heap_1 w.params) cdv qual = true)
    (hbind : bindArgs (fnOf name qual params body scope dV kV doc pm an cdv ct) ⟨vs, []⟩ = pure binds)
    (hkind : (binds.all fun y => scope.names.lookup y.1 == some .local || scope.names.lookup y.1 == some .cell) = true)
    (hnd : ((cellsFrom 0 scope.names []).map (·.1)).Nodup) (T : Top Mine.view LO mean mg mb s.heap) (X : (Mine.fr.heap_1 w.params).In s.heap)
    (h : ∀ L h₁ tk cells, Fr s.heap L h₁ (bindL (envOfC qual scope L f cdv).kindOf binds fun _ => none) → News s.heap L h₁ cells →
      CellsAre (bindC (envOfC qual scope L f cdv).kindOf binds fun _ => none) (cellsFrom (L + 1) scope.names []) cells →
      wpC (model PRG w) (ktrTop (2 + claimMargin) 7 (some []) qual scope L f cdv (cellsFrom (L + 1) scope.names []) []) (execs body (envX qual scope L f cdv (cellsFrom (L + 1) scope.names []))) (fun fl s' => Q (match fl with | .ret v => v | _ => .none) s') NoE { s with heap := h₁, toks := tk })
    (hco : scope.isCoroutine = false := by rfl) (hgen : scope.isGenerator = false := by rfl) (hk : scope.kind = .function := by rfl) : wpC (model PRG w) callerA (call (.ref f) vs) Q NoE s := by
  refine wpC_call ?_
  refine codeC_call_function (fd := fnOf name qual params body scope dV kV doc pm an cdv ct) (body := body) (by decide) (X _ _ ho) rfl hco hgen rfl (codeRec_of X hcd) (BindsTo.of_eq hbind _ _ _ _ ?_)
  refine wpAny_newFunctionEnv_cells hk (kindsX hkind _) fun env' he s' x => ?_
  subst he
  refine ⟨T.nolimit.keeps x.toInCall.keep, codeC_func ?_⟩
  obtain ⟨h₁, tk, rfl, _⟩ := x.done
  obtain ⟨cells, NC, Y⟩ := Cl.news (h₀ := s.heap) (Nat.le_refl _) fun n c hm => ⟨x.cell n c (lookup_of_mem_nodup (cellsFrom_names scope.names 0 (s.heap.objs.size + 1) [] [] rfl ▸ hnd) hm), x.above n c hm⟩
  exact h s.heap.objs.size h₁ tk cells ⟨x.toInCall.ns, fun b o e => x.toInCall.keep b o e, Nat.le_refl _⟩ NC Y
section
/-- As Fn, of heaps of which P is known. -/
noncomputable def FnP (w : World) (P : Heap → Prop) (f : Addr) (vs : List Value) (news : Ledger) (D : Nat) (R : Ok → Prop) : Prop :=
  ∀ (mean : ExcName → Option Value) (mg mb : Str → Option Value) (dp un : Nat) (gd : Option (List Code)) (cn : Str) (cs : Scope) (a : Addr) (ccd : Value) (cl : List (Str × Addr)) (outer : List Env) (A₀ : Around) (base h₀ : Heap) (L : Addr) (m : Str → Option Value) (s : Shared) (Q : Value → Shared → Prop),
    P h₀ → Below A₀ base outer h₀ → Fr h₀ L s.heap m → (Mine.fr.heap_1 w.params).In h₀ → News h₀ L s.heap news → Top Mine.view LO mean mg mb h₀ → cs.kind = .function →
    dp + D < recursionLimit → un + 8 * D < cLine →
    R (fun v news' => ∀ h' tk', Fr h₀ L h' m → News h₀ L h' news' → Q v { s with heap := h', toks := tk' }) →
    wpAny (model PRG w) (ktrTop dp un gd cn cs L a ccd cl outer) (call (.ref f) vs) Q NoE s
noncomputable def BdP (w : World) (P : Heap → Prop) (qual : Str) (scope : Scope) (f : Addr) (cdv : Value) (body : List Stmt) (m : Str → Option Value) (news : Ledger) (D : Nat) (R : Ok → Prop) : Prop :=
  ∀ (mean : ExcName → Option Value) (mg mb : Str → Option Value) (dp un : Nat) (gd : Option (List Code)) (outer : List Env) (A₀ : Around) (base g : Heap) (L : Addr) (s : Shared) (Q : Flow → Shared → Prop),
    P g → Below A₀ base outer g → Fr g L s.heap m → (Mine.fr.heap_1 w.params).In g → News g L s.heap news → Top Mine.view LO mean mg mb g →
    dp + D < recursionLimit → un + 8 * D < cLine →
    R (fun v news' => ∀ h' tk' m', Fr g L h' m' → News g L h' news' → Q (.ret v) { s with heap := h', toks := tk' }) →
    wpAny (model PRG w) (ktrTop dp un gd qual scope L f cdv [] outer) (execs body (envOf qual scope L f cdv)) Q NoE s
theorem fnP_of_body {w : World} {P : Heap → Prop} {name qual : Str} {params : Arguments} {body : List Stmt} {scope : Scope} {dV kV doc pm cdv ct oc : Value} {an od : Option Addr} {osl : Array (Option Value)} {f : Addr} {vs : List Value} {binds : List (Str × Value)} {news : Ledger} {D : Nat} {R : Ok → Prop}
    (ho : (Mine.fr.heap_1 w.params).lookup f = some ⟨oc, od, .func (fnOf name qual params body scope dV kV doc pm an cdv ct), osl⟩) (hcd : codeIn (Mine.fr.heap_1 w.params) cdv qual = true)
    (hbind : bindArgs (fnOf name qual params body scope dV kV doc pm an cdv ct) ⟨vs, []⟩ = pure binds) (hloc : (binds.all fun x => decide (scope.names.lookup x.1 = some .local)) = true)
    (hcell : ∀ x ∈ scope.names, x.2 ≠ .cell)
    (hR : ∀ ok ok' : Ok, (∀ v n, ok v n → ok' v n) → R ok → R ok')
    (h : BdP w P qual scope f cdv body (fun y => binds.reverse.lookup y) news D R) (hP : ∀ h h' : Heap, (∀ b o, h.get? b = some o → h'.get? b = some o) → P h → P h')
    (hco : scope.isCoroutine = false := by rfl) (hgen : scope.isGenerator = false := by rfl) (hk : scope.kind = .function := by rfl)  : FnP w P f vs news (D + 1) R := by
  intro mean mg mb dp un gd cn cs a ccd cl outer A₀ base h₀ L m s Q p0 B F X N T hks hd hu hret
  refine wpAny_call ?_
  refine callX_plain (fo := _) B F N T.nolimit rfl rfl hks ((X.keeps F.keep) _ _ ho) rfl (codeRec_of (X.keeps F.keep) hcd) (by show dp < recursionLimit; omega) (BindsTo.of_eq hbind) (locs hloc) ?_ hcell hco hgen hk
  intro g L' h₁ FG F' N' B' st l1
  refine wpAny_mono (h mean mg mb (dp + 1) (un + 3) gd (envX cn cs L a ccd cl :: outer) _ base g L' _ (fun fl s' => LeaveK h₀ L m g (fun r s' => match r with | .ok (.ret v) => Q v s' | .ok _ => False | .error e => NoE e s') (match fl with | .ret v => v | _ => .none) s') (hP _ _ st p0) B' F' (X.keeps st) N' (T.keeps st) (by omega) (by omega) ?_) (fun _ _ x => x) (fun _ _ x => x.elim)
  refine hR _ _ ?_ hret
  intro v n hok h' tk' m' F2 N2
  exact leaveK_ F2 N2 fun F3 N3 => hok h' tk' F3 N3
theorem isList_keeps {S : Addr} {vs : Array Value} (h h' : Heap) (k : ∀ b o, h.get? b = some o → h'.get? b = some o) (q : h.IsList S vs) : h'.IsList S vs := by
  obtain ⟨o, ho, r⟩ := q
  exact ⟨o, k _ _ ho, r⟩
theorem len_g {prog : Program} {w : World} {A : Around} {E : Value → Shared → Prop} {s : Shared} {h₀ : Heap} {L S : Addr} {m : Map} {vs : List Value} {Q : Value → Shared → Prop} (q : h₀.IsList S vs.toArray) (F : Fr h₀ L s.heap m) (hz : vs.length ≤ 1000000) (h : Q (.int vs.length (s.toks + 1)) { s with toks := s.toks + 1 + 1 }) : wpAny (model prog w) A (call (.builtin "len") [.ref S]) Q E s :=
  PyProof.Rows.len_list (isList_keeps _ _ F.keep q) (by rw [List.size_toArray]; omega) (by simpa using h)
theorem item_g {prog : Program} {w : World} {A : Around} {E : Value → Shared → Prop} {s : Shared} {h₀ : Heap} {L S : Addr} {m : Map} {vs : List Value} {k : Int} {u : Tok} {x : Value} {value slice : Expr} {Q : Value → Shared → Prop} (q : h₀.IsList S vs.toArray) (F : Fr h₀ L s.heap m) (h0 : 0 ≤ k) (hfit : k < 2 ^ 63) (hx : vs[k.toNat]? = some x) (h : Q x s)
    (hs : subscripted slice false (.ref S) (.int k u) = operate [.ref S, .int k u] (getItem (.ref S) (.int k u)) := by with_unfolding_all rfl) (hg : ∀ r, letTemporaryGo value (.ref S) r = pure () := by intro _; with_unfolding_all rfl) :
    wpAny (model prog w) A (subscriptTail value slice (.ref S) (.int k u)) Q E s := item_listL (isList_keeps _ _ F.keep q) h0 hfit hx h hs hg
local macro_rules | `(tactic| walk_at "call builtin:len") => `(tactic| k_dflt (refine len_g (by assumption) (by assumption) (by omega) ?_))
local macro_rules | `(tactic| walk_at "subscriptTail Name Name ref int") => `(tactic| k_dflt (refine item_g (by assumption) (by assumption) (by omega) (by omega) (by assumption) ?_))
noncomputable abbrev PoolR (news : Ledger) (ok : Ok) : Prop := ∀ p a b ta tb o, 0 ≤ a → 0 ≤ b → b < 2147483647 → (∀ q ∈ news, q.1 < p) → ok (.ref p) ((p, SrcO a b ta tb o) :: news)
noncomputable abbrev ScrP (S : Addr) (vs : List Value) (h : Heap) : Prop := h.IsList S vs.toArray
theorem pool_a (w : World) (news : Ledger) (S : Addr) (vs : List Value) (t1 : Tok) (k : Int) (h0 : 0 ≤ k) (h1 : k < 3) (hlen : vs.length ≤ 1000000) (hk : (vs.length : Int) ≤ k) :
    FnP w (ScrP S vs) 293 [.ref S, .int k t1] news 1 (PoolR news) := by
  refine' fnP_of_body (hP := isList_keeps) (binds := [(Str.ofString "script", .ref S), (Str.ofString "k", .int k t1)]) ?ho ?hcd ?hb ?hl ?hc ?hR ?body ?c1 ?c2 ?c3
  (case ho => k_is)
  (case hcd => k_is)
  (case hb => rfl)
  (case hl => rfl)
  (case hc => decide)
  (case hR => exact (fun _ _ h k p a b ta tb o l1 l2 l3 l4 => h _ _ (k p a b ta tb o l1 l2 l3 l4)))
  (case c1 => rfl)
  (case c2 => rfl)
  (case c3 => rfl)
  intro mean mg mb dp un gd outer A₀ base g L s Q P0 B F X N T hd hu hret
  repeat' ((fail_if_success (with_reducible show wpAny _ _ (exec (Stmt.For _ _ _ _ _) _) _ _ _)); (fail_if_success (with_reducible show wpAny _ _ (pyIter _) _ _ _)); (fail_if_success (with_reducible show wpAny _ _ (exec (Stmt.While _ _ _ _) _) _ _ _)); first | walk1 | (dsimp only; walk1))
  all_goals (refine' hret _ _ _ _ _ _ ?hA ?hB ?hB2 ?hl _ _ _ ?F ?N; (case N => assumption); (case F => assumption); (case hl => first | assumption | exact ktn_ltOf (l := _ :: _) (by assumption)); (case hB => exact fmod_lo _ (by decide)); (case hB2 => exact fmod_hi _ (by decide)); (case hA => first | omega | (split <;> omega)))
theorem pool_b (w : World) (news : Ledger) (S : Addr) (vs : List Value) (t1 tc : Tok) (k c : Int) (h0 : 0 ≤ k) (h1 : k < 3) (hlen : vs.length ≤ 1000000) (hk : k < (vs.length : Int)) (hc : vs[k.toNat]? = some (.int c tc)) (h5 : 0 ≤ c) :
    FnP w (ScrP S vs) 293 [.ref S, .int k t1] news 1 (PoolR news) := by
  refine' fnP_of_body (hP := isList_keeps) (binds := [(Str.ofString "script", .ref S), (Str.ofString "k", .int k t1)]) ?ho ?hcd ?hb ?hl ?hc ?hR ?body ?c1 ?c2 ?c3
  (case ho => k_is)
  (case hcd => k_is)
  (case hb => rfl)
  (case hl => rfl)
  (case hc => decide)
  (case hR => exact (fun _ _ h k p a b ta tb o l1 l2 l3 l4 => h _ _ (k p a b ta tb o l1 l2 l3 l4)))
  (case c1 => rfl)
  (case c2 => rfl)
  (case c3 => rfl)
  intro mean mg mb dp un gd outer A₀ base g L s Q P0 B F X N T hd hu hret
  repeat' ((fail_if_success (with_reducible show wpAny _ _ (exec (Stmt.For _ _ _ _ _) _) _ _ _)); (fail_if_success (with_reducible show wpAny _ _ (pyIter _) _ _ _)); (fail_if_success (with_reducible show wpAny _ _ (exec (Stmt.While _ _ _ _) _) _ _ _)); first | walk1 | (dsimp only; walk1))
  all_goals (refine' hret _ _ _ _ _ _ ?hA ?hB ?hB2 ?hl _ _ _ ?F ?N; (case N => assumption); (case F => assumption); (case hl => first | assumption | exact ktn_ltOf (l := _ :: _) (by assumption)); (case hB => exact fmod_lo _ (by decide)); (case hB2 => exact fmod_hi _ (by decide)); (case hA => first | omega | (split <;> omega)))
theorem pool_c (w : World) (news : Ledger) (S : Addr) (vs : List Value) (t1 tc : Tok) (k c : Int) (h0 : 0 ≤ k) (h1 : k < 3) (hlen : vs.length ≤ 1000000) (hk : k < (vs.length : Int)) (hc : vs[k.toNat]? = some (.int c tc)) (h5 : c < 0) :
    FnP w (ScrP S vs) 293 [.ref S, .int k t1] news 1 (PoolR news) := by
  refine' fnP_of_body (hP := isList_keeps) (binds := [(Str.ofString "script", .ref S), (Str.ofString "k", .int k t1)]) ?ho ?hcd ?hb ?hl ?hc ?hR ?body ?c1 ?c2 ?c3
  (case ho => k_is)
  (case hcd => k_is)
  (case hb => rfl)
  (case hl => rfl)
  (case hc => decide)
  (case hR => exact (fun _ _ h k p a b ta tb o l1 l2 l3 l4 => h _ _ (k p a b ta tb o l1 l2 l3 l4)))
  (case c1 => rfl)
  (case c2 => rfl)
  (case c3 => rfl)
  intro mean mg mb dp un gd outer A₀ base g L s Q P0 B F X N T hd hu hret
  repeat' ((fail_if_success (with_reducible show wpAny _ _ (exec (Stmt.For _ _ _ _ _) _) _ _ _)); (fail_if_success (with_reducible show wpAny _ _ (pyIter _) _ _ _)); (fail_if_success (with_reducible show wpAny _ _ (exec (Stmt.While _ _ _ _) _) _ _ _)); first | walk1 | (dsimp only; walk1))
  all_goals (refine' hret _ _ _ _ _ _ ?hA ?hB ?hB2 ?hl _ _ _ ?F ?N; (case N => assumption); (case F => assumption); (case hl => first | assumption | exact ktn_ltOf (l := _ :: _) (by assumption)); (case hB => exact fmod_lo _ (by decide)); (case hB2 => exact fmod_hi _ (by decide)); (case hA => first | omega | (split <;> omega)))
theorem pool_ok (w : World) (news : Ledger) (S : Addr) (vs : List Value) (ns : List Int) (t1 : Tok) (k : Int) (hi : IntsAre vs ns) (h0 : 0 ≤ k) (h1 : k < 3) (hlen : vs.length ≤ 1000000) :
    FnP w (ScrP S vs) 293 [.ref S, .int k t1] news 1 (PoolR news) := by
  by_cases hk : (vs.length : Int) ≤ k
  · exact pool_a w news S vs t1 k h0 h1 hlen hk
  · obtain ⟨v, hv⟩ : ∃ v, vs[k.toNat]? = some v := ⟨_, List.getElem?_eq_getElem (by omega)⟩
    obtain ⟨c, tc, rfl, -⟩ := IntsAre.at hi k.toNat v (by simpa using hv)
    by_cases h5 : 0 ≤ c
    · exact pool_b w news S vs t1 tc k c h0 h1 hlen (by omega) hv h5
    · exact pool_c w news S vs t1 tc k c h0 h1 hlen (by omega) hv (by omega)
theorem fnP_use {w : World} {P : Heap → Prop} {f : Addr} {vs : List Value} {news : Ledger} {D : Nat} {R : Ok → Prop} {mean : ExcName → Option Value} {mg mb : Str → Option Value} {dp un : Nat} {gd : Option (List Code)} {cn : Str} {cs : Scope} {a : Addr} {ccd : Value} {cl : List (Str × Addr)} {outer : List Env} {A₀ : Around} {base h₀ : Heap} {L : Addr} {m : Str → Option Value} {s : Shared} {Q : Value → Shared → Prop}
    (S : FnP w P f vs news D R) (p : P h₀) (B : Below A₀ base outer h₀) (F : Fr h₀ L s.heap m) (X : (Mine.fr.heap_1 w.params).In h₀) (N : News h₀ L s.heap news) (T : Top Mine.view LO mean mg mb h₀) (hk : cs.kind = .function)
    (hd : dp + D < recursionLimit) (hu : un + 8 * D < cLine) (k : R (fun v news' => ∀ h' tk', Fr h₀ L h' m → News h₀ L h' news' → Q v { s with heap := h', toks := tk' })) :
    wpAny (model PRG w) (ktrTop dp un gd cn cs L a ccd cl outer) (call (.ref f) vs) Q NoE s := S mean mg mb dp un gd cn cs a ccd cl outer A₀ base h₀ L m s Q p B F X N T hk hd hu k
end
noncomputable abbrev IsTrip (h : Heap) (T : Addr) (a b c : Value) : Prop := h.get? T = some { cls := .type "tuple", data := .seq #[a, b, c] }
theorem typeCall_zip_3 (a b c : Value) : checkTypeCall "zip" ⟨[a, b, c], []⟩ = pure () := by kernel_rfl
theorem newCall_zip_3 (a b c : Value) : checkBuiltinCall "zip.__new__" ⟨[.type "zip", a, b, c], []⟩ = pure () := by kernel_rfl
theorem args_object_init_4 (a b c d : Value) : argsOk "object.__init__" ⟨[a, b, c, d], []⟩ := by
  unfold argsOk; rw [signature?_of (id := "object.__init__") (n := ['_', '_', 't', 'i', 'n', 'i', '_', '_']) (o := ['t', 'c', 'e', 'j', 'b', 'o']) (by kernel_rfl) F.owner_object]; kernel_rfl
structure Zip3Apart (z TI TO i1 i2 i3 l1 l2 l3 : Addr) : Prop where
  TIz : TI ≠ z
  TOz : TO ≠ z
  TITO : TI ≠ TO
  i1z : i1 ≠ z
  TIi1 : TI ≠ i1
  TOi1 : TO ≠ i1
  i2z : i2 ≠ z
  TIi2 : TI ≠ i2
  TOi2 : TO ≠ i2
  i3z : i3 ≠ z
  TIi3 : TI ≠ i3
  TOi3 : TO ≠ i3
  i12 : i1 ≠ i2
  i13 : i1 ≠ i3
  i23 : i2 ≠ i3
  l1z : l1 ≠ z
  l1TO : l1 ≠ TO
  l1i1 : l1 ≠ i1
  l1i2 : l1 ≠ i2
  l1i3 : l1 ≠ i3
  l2z : l2 ≠ z
  l2TO : l2 ≠ TO
  l2i1 : l2 ≠ i1
  l2i2 : l2 ≠ i2
  l2i3 : l2 ≠ i3
  l3z : l3 ≠ z
  l3TO : l3 ≠ TO
  l3i1 : l3 ≠ i1
  l3i2 : l3 ≠ i2
  l3i3 : l3 ≠ i3
section
variable {prog : Program} {w : World} {A : Around} {E : Value → Shared → Prop} {s : Shared}
theorem wpAny_updateSeq_trip {T : Addr} {a b c x : Value} {k : Nat} {Q : Unit → Shared → Prop} (hT : IsTrip s.heap T a b c)
    (h : ∀ h', h'.get? T = some { cls := .type "tuple", data := .seq ((#[a, b, c] : Array Value).setIfInBounds k x) } → Heap.SameBut T s.heap h' → Q () { s with heap := h' }) :
    wpAny (model prog w) A (updateSeq T (·.setIfInBounds k x)) Q E s := by
  refine wpAny_updateSeq hT rfl (h _ ?_ (Heap.SameBut.update ..))
  rw [Heap.get?_update_self _ hT rfl]
  simp [Obj.mapSeq]
theorem zip3_next {z TI TO i1 i2 i3 l1 l2 l3 : Addr} {k : Nat} {xs ys zs : Array Value} {x y u a b c : Value} {Q : Value → Shared → Prop} (D : Zip3Apart z TI TO i1 i2 i3 l1 l2 l3)
    (hz : IsZip s.heap z TI TO .none) (hTI : IsTrip s.heap TI (.ref i1) (.ref i2) (.ref i3)) (hTO : IsTrip s.heap TO a b c)
    (h1 : s.heap.IsListIter i1 l1 k) (h2 : s.heap.IsListIter i2 l2 k) (h3 : s.heap.IsListIter i3 l3 k) (hl1 : s.heap.IsList l1 xs) (hl2 : s.heap.IsList l2 ys) (hl3 : s.heap.IsList l3 zs) (hx : xs[k]? = some x) (hy : ys[k]? = some y) (hu : zs[k]? = some u)
    (hQ : ∀ h', IsZip h' z TI TO (rawInt s.heap.objs.size) → IsTrip h' TO x y u → h'.IsListIter i1 l1 (k + 1) → h'.IsListIter i2 l2 (k + 1) → h'.IsListIter i3 l3 (k + 1) → IsTrip h' s.heap.objs.size x y u → h'.objs.size = s.heap.objs.size + 1 →
      (∀ c o, c ≠ z → c ≠ TO → c ≠ i1 → c ≠ i2 → c ≠ i3 → s.heap.get? c = some o → h'.get? c = some o) → Q (.ref s.heap.objs.size) { s with heap := h' }) :
    wpAny (model prog w) A (Builtin.«zip.__next__» ⟨[.ref z], []⟩) (fun fin s' => ∃ v, fin = .done (.ret v) ∧ Q v s') E s := by
  show wpAny _ _ (field (.ref z) 2 >>= _) _ _ _
  refine wpAny_bind (wpAny_field hz rfl (x := .bool false) rfl ?_)
  show wpAny _ _ (field (.ref z) 3 >>= _) _ _ _
  refine wpAny_bind (wpAny_field hz rfl (x := .ref TI) rfl ?_)
  refine wpAny_bind (wpAny_seqItems hTI rfl ?_)
  show wpAny _ _ (Builtin.SmallTypes.ownedTupleIsFree (.ref z) >>= _) _ _ _
  refine wpAny_bind ?_
  unfold Builtin.SmallTypes.ownedTupleIsFree
  refine wpAny_bind (wpAny_field hz rfl (x := .none) rfl (wpAny_pure ?_))
  simp only [if_true]
  refine wpAny_bind (wpAny_rule ?_)
  refine wpAny_bind (wpAny_field hz rfl (x := .ref TO) rfl ?_)
  refine wpAny_bind (wpAny_setField_rec hz (by simp) fun h₁ hz₁ hs₁ => ?_)
  replace hz₁ : IsZip h₁ z TI TO .ellipsis := hz₁
  refine wpAny_bind ?_
  simp only [List.zipIdx_cons, List.zipIdx_nil, List.forIn_cons, List.forIn_nil]
  have kp₁ : ∀ c o, c ≠ z → s.heap.get? c = some o → h₁.get? c = some o := fun c o e q => hs₁.extBut _ _ e q

  refine wpAny_bind (wpAny_bind (wpAny_onRaise ?_))
  show wpAny _ _ (Builtin.SmallTypes.nextOf (.ref i1) >>= _) _ _ _
  refine wpAny_bind (wpAny_nextOf_list_item (h1.at fun o e => kp₁ _ o D.i1z e) (hl1.at fun o e => kp₁ _ o D.l1z e) hx fun h₂ h1₂ hs₂ => wpAny_pure ?_)
  have hTO₂ : IsTrip h₂ TO a b c := hs₂.extBut _ _ D.TOi1 (kp₁ _ _ D.TOz hTO)
  refine wpAny_bind (wpAny_seqItems hTO₂ rfl ?_)
  refine wpAny_bind (wpAny_updateSeq_trip hTO₂ fun h₃ hTO₃ hs₃ => ?_)
  replace hTO₃ : IsTrip h₃ TO x b c := hTO₃
  refine wpAny_bind (wpAny_letGo (wpAny_pure ?_))
  have kp₃ : ∀ c o, c ≠ z → c ≠ i1 → c ≠ TO → s.heap.get? c = some o → h₃.get? c = some o := fun c o e e1 e2 q => hs₃.extBut _ _ e2 (hs₂.extBut _ _ e1 (kp₁ c o e q))
  have h1₃ : h₃.IsListIter i1 l1 (k + 1) := h1₂.extBut hs₃.extBut D.TOi1.symm

  refine wpAny_bind (wpAny_bind (wpAny_onRaise ?_))
  show wpAny _ _ (Builtin.SmallTypes.nextOf (.ref i2) >>= _) _ _ _
  refine wpAny_bind (wpAny_nextOf_list_item (h2.at fun o e => kp₃ _ o D.i2z D.i12.symm D.TOi2.symm e) (hl2.at fun o e => kp₃ _ o D.l2z D.l2i1 D.l2TO e) hy fun h₄ h2₄ hs₄ => wpAny_pure ?_)
  have hTO₄ : IsTrip h₄ TO x b c := hs₄.extBut _ _ D.TOi2 hTO₃
  refine wpAny_bind (wpAny_seqItems hTO₄ rfl ?_)
  refine wpAny_bind (wpAny_updateSeq_trip hTO₄ fun h₅ hTO₅ hs₅ => ?_)
  replace hTO₅ : IsTrip h₅ TO x y c := hTO₅
  refine wpAny_bind (wpAny_letGo (wpAny_pure ?_))
  have kp₅ : ∀ c o, c ≠ z → c ≠ i1 → c ≠ i2 → c ≠ TO → s.heap.get? c = some o → h₅.get? c = some o := fun c o e e1 e2 e3 q => hs₅.extBut _ _ e3 (hs₄.extBut _ _ e2 (kp₃ c o e e1 e3 q))
  have h1₅ : h₅.IsListIter i1 l1 (k + 1) := (h1₃.extBut hs₄.extBut D.i12).extBut hs₅.extBut D.TOi1.symm
  have h2₅ : h₅.IsListIter i2 l2 (k + 1) := h2₄.extBut hs₅.extBut D.TOi2.symm

  refine wpAny_bind (wpAny_bind (wpAny_onRaise ?_))
  show wpAny _ _ (Builtin.SmallTypes.nextOf (.ref i3) >>= _) _ _ _
  refine wpAny_bind (wpAny_nextOf_list_item (h3.at fun o e => kp₅ _ o D.i3z D.i13.symm D.i23.symm D.TOi3.symm e) (hl3.at fun o e => kp₅ _ o D.l3z D.l3i1 D.l3i2 D.l3TO e) hu fun h₆ h3₆ hs₆ => wpAny_pure ?_)
  have hTO₆ : IsTrip h₆ TO x y c := hs₆.extBut _ _ D.TOi3 hTO₅
  refine wpAny_bind (wpAny_seqItems hTO₆ rfl ?_)
  refine wpAny_bind (wpAny_updateSeq_trip hTO₆ fun h₇ hTO₇ hs₇ => ?_)
  replace hTO₇ : IsTrip h₇ TO x y u := hTO₇
  refine wpAny_bind (wpAny_letGo (wpAny_pure (wpAny_pure ?_)))
  have kp₇ : ∀ c o, c ≠ z → c ≠ TO → c ≠ i1 → c ≠ i2 → c ≠ i3 → s.heap.get? c = some o → h₇.get? c = some o := fun c o e e3 e1 e2 e4 q => hs₇.extBut _ _ e3 (hs₆.extBut _ _ e4 (kp₅ c o e e1 e2 e3 q))
  have h1₇ : h₇.IsListIter i1 l1 (k + 1) := (h1₅.extBut hs₆.extBut D.i13).extBut hs₇.extBut D.TOi1.symm
  have h2₇ : h₇.IsListIter i2 l2 (k + 1) := (h2₅.extBut hs₆.extBut D.i23).extBut hs₇.extBut D.TOi2.symm
  have h3₇ : h₇.IsListIter i3 l3 (k + 1) := h3₆.extBut hs₇.extBut D.TOi3.symm
  have hz₇ : IsZip h₇ z TI TO .ellipsis := hs₇.extBut _ _ D.TOz.symm (hs₆.extBut _ _ D.i3z.symm (hs₅.extBut _ _ D.TOz.symm (hs₄.extBut _ _ D.i2z.symm (hs₃.extBut _ _ D.TOz.symm (hs₂.extBut _ _ D.i1z.symm hz₁)))))

  refine wpAny_bind (wpAny_seqItems hTO₇ rfl ?_)
  refine wpAny_bind (wpAny_newTuple ?_)
  have hsz : h₇.objs.size = s.heap.objs.size := by rw [hs₇.1, hs₆.1, hs₅.1, hs₄.1, hs₃.1, hs₂.1, hs₁.1]
  have hzlt : z < h₇.objs.size := Heap.lt_size hz₇
  show wpAny _ _ (Builtin.SmallTypes.ownedTupleHandOut (.ref z) (.ref h₇.objs.size) >>= _) _ _ _
  refine wpAny_bind ?_
  unfold Builtin.SmallTypes.ownedTupleHandOut
  have hz₈ : IsZip (h₇.push { cls := .type "tuple", data := .seq #[x, y, u] }) z TI TO .ellipsis := Heap.get?_push_of_some _ hz₇
  refine wpAny_bind (wpAny_setField_rec hz₈ (by simp) fun h₉ hz₉ hs₉ => ?_)
  replace hz₉ : IsZip h₉ z TI TO (rawInt h₇.objs.size) := hz₉
  refine wpAny_setField_rec hz₉ (by simp) fun h₁₀ hz₁₀ hs₁₀ => ?_
  replace hz₁₀ : IsZip h₁₀ z TI TO (rawInt h₇.objs.size) := hz₁₀
  have up : ∀ c o, c ≠ z → h₇.get? c = some o → h₁₀.get? c = some o := fun c o c1 e => hs₁₀.extBut _ _ c1 (hs₉.extBut _ _ c1 (Heap.get?_push_of_some _ e))
  have hT : IsTrip h₁₀ h₇.objs.size x y u := hs₁₀.extBut _ _ (Nat.ne_of_gt hzlt) (hs₉.extBut _ _ (Nat.ne_of_gt hzlt) (Heap.get?_push_size _ rfl))
  have hz8 : h₁₀.objs.size = h₇.objs.size + 1 := by rw [hs₁₀.1, hs₉.1, Heap.size_push]
  rw [hsz] at hz₁₀ hT hz8
  refine wpAny_pure ⟨_, rfl, ?_⟩
  show Q (.ref h₇.objs.size) _
  rw [hsz]
  exact hQ h₁₀ hz₁₀ (up _ _ D.TOz hTO₇) (h1₇.at fun o e => up _ o D.i1z e) (h2₇.at fun o e => up _ o D.i2z e) (h3₇.at fun o e => up _ o D.i3z e) hT hz8 fun c o c1 c2 c3 c4 c5 e => up c o c1 (kp₇ c o c1 c2 c3 c4 c5 e)
theorem zip3_end {z TI TO i1 i2 i3 l1 l2 l3 : Addr} {k : Nat} {xs : Array Value} {a b c : Value} {Q : Fin → Shared → Prop} (hh : A.handled = none) (D : Zip3Apart z TI TO i1 i2 i3 l1 l2 l3)
    (hz : IsZip s.heap z TI TO .none) (hTI : IsTrip s.heap TI (.ref i1) (.ref i2) (.ref i3)) (hTO : IsTrip s.heap TO a b c)
    (h1 : s.heap.IsListIter i1 l1 k) (hl1 : s.heap.IsList l1 xs) (hx : xs[k]? = none)
    (hE : ∀ h' e, (∀ c o, c ≠ z → c ≠ i1 → s.heap.get? c = some o → h'.get? c = some o) → (∃ o, h'.get? e = some o ∧ o.cls = .type "StopIteration") → E (.ref e) { s with heap := h' }) :
    wpAny (model prog w) A (Builtin.«zip.__next__» ⟨[.ref z], []⟩) Q E s := by
  show wpAny _ _ (field (.ref z) 2 >>= _) _ _ _
  refine wpAny_bind (wpAny_field hz rfl (x := .bool false) rfl ?_)
  show wpAny _ _ (field (.ref z) 3 >>= _) _ _ _
  refine wpAny_bind (wpAny_field hz rfl (x := .ref TI) rfl ?_)
  refine wpAny_bind (wpAny_seqItems hTI rfl ?_)
  show wpAny _ _ (Builtin.SmallTypes.ownedTupleIsFree (.ref z) >>= _) _ _ _
  refine wpAny_bind ?_
  unfold Builtin.SmallTypes.ownedTupleIsFree
  refine wpAny_bind (wpAny_field hz rfl (x := .none) rfl (wpAny_pure ?_))
  simp only [if_true]
  refine wpAny_bind (wpAny_rule ?_)
  refine wpAny_bind (wpAny_field hz rfl (x := .ref TO) rfl ?_)
  refine wpAny_bind (wpAny_setField_rec hz (by simp) fun h₁ hz₁ hs₁ => ?_)
  replace hz₁ : IsZip h₁ z TI TO .ellipsis := hz₁
  refine wpAny_bind ?_
  simp only [List.zipIdx_cons, List.zipIdx_nil, List.forIn_cons, List.forIn_nil]
  refine wpAny_bind (wpAny_bind (wpAny_onRaise ?_))
  show wpAny _ _ (Builtin.SmallTypes.nextOf (.ref i1) >>= _) _ _ _
  refine wpAny_bind (wpAny_nextOf_list_end hh (h1.extBut hs₁.extBut D.i1z) (hl1.extBut hs₁.extBut D.l1z) hx fun h₂ e hs₂ he => ?_)
  obtain ⟨oe, hoe, hce⟩ := he
  have hz₂ : IsZip h₂ z TI TO .ellipsis := hs₂ _ _ D.i1z.symm hz₁
  have hez : e ≠ z := fun x => by subst x; rw [hz₂] at hoe; cases hoe; simp at hce
  refine wpAny_setField_rec hz₂ (by simp) fun h₃ _ hs₃ => hE h₃ e (fun c o c1 c3 x => hs₃.extBut _ _ c1 (hs₂ _ _ c3 (hs₁.extBut _ _ c1 x))) ⟨oe, hs₃.extBut _ _ hez hoe, hce⟩
end
noncomputable abbrev z3H1 (h : Heap) (l1 : Addr) : Heap := h.push { cls := .type "list_iterator", data := .fields #[.ref l1, .int 0 0] }
noncomputable abbrev z3H2 (h : Heap) (l1 l2 : Addr) : Heap := (z3H1 h l1).push { cls := .type "list_iterator", data := .fields #[.ref l2, .int 0 0] }
noncomputable abbrev z3H3 (h : Heap) (l1 l2 l3 : Addr) : Heap := (z3H2 h l1 l2).push { cls := .type "list_iterator", data := .fields #[.ref l3, .int 0 0] }
noncomputable abbrev z3H4 (h : Heap) (l1 l2 l3 : Addr) : Heap := (z3H3 h l1 l2 l3).push { cls := .type "tuple", data := .seq #[.ref h.objs.size, .ref (z3H1 h l1).objs.size, .ref (z3H2 h l1 l2).objs.size] }
noncomputable abbrev z3H5 (h : Heap) (l1 l2 l3 : Addr) : Heap := (z3H4 h l1 l2 l3).push { cls := .type "tuple", data := .seq #[.none, .none, .none] }
noncomputable abbrev z3H6 (h : Heap) (l1 l2 l3 : Addr) : Heap := (z3H5 h l1 l2 l3).push { cls := .type "zip", data := .fields #[.none, .bool false, .bool false, .ref (z3H3 h l1 l2 l3).objs.size, .ref (z3H4 h l1 l2 l3).objs.size] }
theorem meets_zip_new3 (l1 l2 l3 : Addr) (xs ys zs : Array Value) :
    Meets (Builtin.«zip.__new__» ⟨[.type "zip", .ref l1, .ref l2, .ref l3], []⟩) (fun _ R s => s.heap.IsList l1 xs ∧ s.heap.IsList l2 ys ∧ s.heap.IsList l3 zs ∧
      R (.ok (.ret (.ref (z3H5 s.heap l1 l2 l3).objs.size))) { s with heap := z3H6 s.heap l1 l2 l3 }) :=
  .of_wp fun prog w A R s h => by
    obtain ⟨hp, g, d, tk, os⟩ := s; obtain ⟨hl1, hl2, hl3, h⟩ := h
    have hsub := sub_zip
    have hL1 : Heap.IsList (Shared.heap ⟨hp, g, d, tk, os⟩) l1 xs := hl1
    have hL2 : Heap.IsList (Shared.heap ⟨hp.push { cls := .type "list_iterator", data := .fields #[.ref l1, .int 0 0] }, g, d, tk, os⟩) l2 ys := Heap.IsList.push hl2 _
    have hL3 : Heap.IsList (Shared.heap ⟨(hp.push { cls := .type "list_iterator", data := .fields #[.ref l1, .int 0 0] }).push { cls := .type "list_iterator", data := .fields #[.ref l2, .int 0 0] }, g, d, tk, os⟩) l3 zs := Heap.IsList.push (Heap.IsList.push hl3 _) _
    wp_walk using wpAny_pyIter_list hL1, wpAny_pyIter_list hL2, wpAny_pyIter_list hL3
    exact ⟨_, rfl, h⟩
section
variable {prog : Program} {w : World} {A : Around} {E : Value → Shared → Prop} {s : Shared}
theorem call_zip_3 {l1 l2 l3 : Addr} {xs ys zs : Array Value} {Q : Value → Shared → Prop} (hl1 : s.heap.IsList l1 xs) (hl2 : s.heap.IsList l2 ys) (hl3 : s.heap.IsList l3 zs)
    (h : ∀ h', IsZip h' (s.heap.objs.size + 5) (s.heap.objs.size + 3) (s.heap.objs.size + 4) .none → IsTrip h' (s.heap.objs.size + 3) (.ref s.heap.objs.size) (.ref (s.heap.objs.size + 1)) (.ref (s.heap.objs.size + 2)) →
      IsTrip h' (s.heap.objs.size + 4) .none .none .none → h'.IsListIter s.heap.objs.size l1 0 → h'.IsListIter (s.heap.objs.size + 1) l2 0 → h'.IsListIter (s.heap.objs.size + 2) l3 0 → h'.objs.size = s.heap.objs.size + 6 →
      (∀ c o, s.heap.get? c = some o → h'.get? c = some o) → Q (.ref (s.heap.objs.size + 5)) { s with heap := h' }) :
    wpAny (model prog w) A (call (.type "zip") [.ref l1, .ref l2, .ref l3]) Q E s := by
  refine callType_new F.called_zip (by decide) (typeCall_zip_3 _ _ _) (newCall_zip_3 _ _ _) (fun obj => args_object_init_4 obj _ _ _) F.entry_zip_new
    (meets_zip_new3 l1 l2 l3 xs ys zs) ⟨hl1, hl2, hl3, ?_⟩
  have z1 : (z3H1 s.heap l1).objs.size = s.heap.objs.size + 1 := Heap.size_push ..
  have z2 : (z3H2 s.heap l1 l2).objs.size = s.heap.objs.size + 2 := by rw [Heap.size_push, z1]
  have z3 : (z3H3 s.heap l1 l2 l3).objs.size = s.heap.objs.size + 3 := by rw [Heap.size_push, z2]
  have z4 : (z3H4 s.heap l1 l2 l3).objs.size = s.heap.objs.size + 4 := by rw [Heap.size_push, z3]
  have z5 : (z3H5 s.heap l1 l2 l3).objs.size = s.heap.objs.size + 5 := by rw [Heap.size_push, z4]
  have z6 : (z3H6 s.heap l1 l2 l3).objs.size = s.heap.objs.size + 6 := by rw [Heap.size_push, z5]
  have g6 : (z3H6 s.heap l1 l2 l3).get? (z3H5 s.heap l1 l2 l3).objs.size = some _ := Heap.get?_push_size _ rfl
  have g5 : (z3H6 s.heap l1 l2 l3).get? (z3H4 s.heap l1 l2 l3).objs.size = some _ := Heap.get?_push_of_some _ (Heap.get?_push_size _ rfl)
  have g4 : (z3H6 s.heap l1 l2 l3).get? (z3H3 s.heap l1 l2 l3).objs.size = some _ := Heap.get?_push_of_some _ (Heap.get?_push_of_some _ (Heap.get?_push_size _ rfl))
  have g3 : (z3H6 s.heap l1 l2 l3).get? (z3H2 s.heap l1 l2).objs.size = some _ := Heap.get?_push_of_some _ (Heap.get?_push_of_some _ (Heap.get?_push_of_some _ (Heap.get?_push_size _ rfl)))
  have g2 : (z3H6 s.heap l1 l2 l3).get? (z3H1 s.heap l1).objs.size = some _ := Heap.get?_push_of_some _ (Heap.get?_push_of_some _ (Heap.get?_push_of_some _ (Heap.get?_push_of_some _ (Heap.get?_push_size _ rfl))))
  have g1 : (z3H6 s.heap l1 l2 l3).get? s.heap.objs.size = some _ := Heap.get?_push_of_some _ (Heap.get?_push_of_some _ (Heap.get?_push_of_some _ (Heap.get?_push_of_some _ (Heap.get?_push_of_some _ (Heap.get?_push_size _ rfl)))))
  show _ ∧ _
  rw [z3, z4, z5] at g6
  rw [z4] at g5
  rw [z1, z2, z3] at g4
  rw [z2] at g3
  rw [z1] at g2
  rw [z5]
  exact ⟨⟨_, g6, rfl⟩, h _ g6 g4 g5 ⟨_, g1, rfl, rfl⟩ ⟨_, g2, rfl, rfl⟩ ⟨_, g3, rfl, rfl⟩ z6 fun c o x =>
    Heap.get?_push_of_some _ (Heap.get?_push_of_some _ (Heap.get?_push_of_some _ (Heap.get?_push_of_some _ (Heap.get?_push_of_some _ (Heap.get?_push_of_some _ x)))))⟩
theorem zip3_apart {n l1 l2 l3 : Addr} (h1 : l1 < n) (h2 : l2 < n) (h3 : l3 < n) : Zip3Apart (n + 5) (n + 3) (n + 4) n (n + 1) (n + 2) l1 l2 l3 := by
  have e : ∀ (a b : Nat), a ≠ b → n + a ≠ n + b := fun a b h q => h (Nat.add_left_cancel q)
  have f : ∀ (l : Addr) (b : Nat), l < n → l ≠ n + b := fun l b h => Nat.ne_of_lt (Nat.lt_of_lt_of_le h (Nat.le_add_right _ _))
  constructor
  all_goals first
    | exact e _ _ (by decide)
    | exact e 0 _ (by decide)
    | exact e _ 0 (by decide)
    | exact f _ _ h1
    | exact f _ _ h2
    | exact f _ _ h3
    | exact f _ 0 h1
    | exact f _ 0 h2
    | exact f _ 0 h3
noncomputable def Z3St (n l1 l2 l3 : Addr) (xs ys zs : Array Value) (i : Nat) (h : Heap) : Prop :=
  IsZip h (n + 5) (n + 3) (n + 4) .none ∧ IsTrip h (n + 3) (.ref n) (.ref (n + 1)) (.ref (n + 2)) ∧ (∃ a b c, IsTrip h (n + 4) a b c) ∧ h.IsListIter n l1 i ∧ h.IsListIter (n + 1) l2 i ∧ h.IsListIter (n + 2) l3 i ∧ h.IsList l1 xs ∧ h.IsList l2 ys ∧ h.IsList l3 zs
noncomputable def z3fp (n l1 l2 l3 : Addr) : List Addr := [n + 5, n + 3, n + 4, n, n + 1, n + 2, l1, l2, l3]
noncomputable def z3wr (n : Addr) : List Addr := [n + 5, n + 4, n, n + 1, n + 2]
theorem zip3_turns {target : Expr} {elts : List Expr} {kk : Nat} {pos : Pos} (ht : target = .Tuple elts kk pos) (hh : A.handled = none) {n l1 l2 l3 : Addr} (D : Zip3Apart (n + 5) (n + 3) (n + 4) n (n + 1) (n + 2) l1 l2 l3) (xs ys zs : Array Value) (hy : ys.size = xs.size) (hu : zs.size = xs.size) :
    KTurns prog w A target (n + 5) (z3fp n l1 l2 l3) (z3wr n) xs.size
      (fun i v h => ∃ T x y u, v = .ref T ∧ xs[i]? = some x ∧ ys[i]? = some y ∧ zs[i]? = some u ∧ IsTrip h T x y u ∧ n + 5 < T)
      (fun i v h => ∃ T x y u, v = .ref T ∧ xs[i]? = some x ∧ ys[i]? = some y ∧ zs[i]? = some u ∧ IsTrip h T x y u ∧ n + 5 < T ∧ IsZip h (n + 5) (n + 3) (n + 4) (rawInt T) ∧ IsTrip h (n + 3) (.ref n) (.ref (n + 1)) (.ref (n + 2)) ∧ (∃ a b c, IsTrip h (n + 4) a b c) ∧ h.IsListIter n l1 (i + 1) ∧ h.IsListIter (n + 1) l2 (i + 1) ∧ h.IsListIter (n + 2) l3 (i + 1) ∧ h.IsList l1 xs ∧ h.IsList l2 ys ∧ h.IsList l3 zs)
      (Z3St n l1 l2 l3 xs ys zs) where
  sub := fun c hc => by unfold z3wr at hc; unfold z3fp; simp only [List.mem_cons, List.not_mem_nil, or_false] at hc ⊢; rcases hc with h | h | h | h | h <;> simp [h]
  frame := fun i h h' hst hk => by
    obtain ⟨hz, hTI, ⟨a, b, c, hTO⟩, h1, h2, h3, hl1, hl2, hl3⟩ := hst
    have m : ∀ c, c ∈ z3fp n l1 l2 l3 → ∀ o, h.get? c = some o → h'.get? c = some o := hk
    exact ⟨m _ (by simp [z3fp]) _ hz, m _ (by simp [z3fp]) _ hTI, ⟨a, b, c, m _ (by simp [z3fp]) _ hTO⟩, h1.at fun o e => m _ (by simp [z3fp]) o e, h2.at fun o e => m _ (by simp [z3fp]) o e, h3.at fun o e => m _ (by simp [z3fp]) o e,
      hl1.at fun o e => m _ (by simp [z3fp]) o e, hl2.at fun o e => m _ (by simp [z3fp]) o e, hl3.at fun o e => m _ (by simp [z3fp]) o e⟩
  item := fun i s Q E hi hst hQ => by
    obtain ⟨hz, hTI, ⟨a, b, c, hTO⟩, h1, h2, h3, hl1, hl2, hl3⟩ := hst
    have hT : s.TypeIs (.ref (n + 5)) "zip" := ⟨_, hz, rfl⟩
    unfold pyNext
    refine wpAny_bind (wpAny_attempt (wpAny_callSpecial?_slot (name := Str.ofString "__next__") hT F.slot_zip_next
      (wpAny_call_entry F.slot_zip_next hT F.entry_zip_next
        (zip3_next D hz hTI hTO h1 h2 h3 hl1 hl2 hl3 (Array.getElem?_eq_getElem hi) (Array.getElem?_eq_getElem (by omega)) (Array.getElem?_eq_getElem (by omega)) fun h' a1 a2 a3 a4 a5 a6 a7 hk => wpAny_pure ?_) (F.args_zip_next_1 _))))
    refine hQ _ h' s.toks ⟨_, _, _, _, rfl, Array.getElem?_eq_getElem hi, Array.getElem?_eq_getElem (by omega), Array.getElem?_eq_getElem (by omega), a6, Heap.lt_size hz, a1, hk _ _ D.TIz D.TITO D.TIi1 D.TIi2 D.TIi3 hTI, ⟨_, _, _, a2⟩, a3, a4, a5,
      hl1.at fun o e => hk _ o D.l1z D.l1TO D.l1i1 D.l1i2 D.l1i3 e, hl2.at fun o e => hk _ o D.l2z D.l2TO D.l2i1 D.l2i2 D.l2i3 e, hl3.at fun o e => hk _ o D.l3z D.l3TO D.l3i1 D.l3i2 D.l3i3 e⟩ ?_
    intro c o hc e
    exact hk c o (fun x => hc (by simp [z3wr, x])) (fun x => hc (by simp [z3wr, x])) (fun x => hc (by simp [z3wr, x])) (fun x => hc (by simp [z3wr, x])) (fun x => hc (by simp [z3wr, x])) e
  go := fun i v s Q E hm hQ => by
    subst ht
    obtain ⟨T, x, y, u, rfl, hx, hy, hu, hT, hTz, hz, hTI, ⟨a, b, c, hTO⟩, h1, h2, h3, hl1, hl2, hl3⟩ := hm
    refine wpAny_letOwnedTupleGo_zip hz fun h' hz' hs' => ?_
    have k : ∀ c o, c ≠ n + 5 → s.heap.get? c = some o → h'.get? c = some o := fun c o e q => hs'.extBut _ _ e q
    refine hQ h' ⟨T, x, y, u, rfl, hx, hy, hu, k _ _ (Nat.ne_of_gt hTz) hT, hTz⟩ ⟨hz', k _ _ D.TIz hTI, ⟨a, b, c, k _ _ D.TOz hTO⟩, h1.at fun o e => k _ o D.i1z e, h2.at fun o e => k _ o D.i2z e, h3.at fun o e => k _ o D.i3z e,
      hl1.at fun o e => k _ o D.l1z e, hl2.at fun o e => k _ o D.l2z e, hl3.at fun o e => k _ o D.l3z e⟩ fun c o hc e => k c o (fun x => hc (by simp [z3wr, x])) e
  done := fun s Q E hst hQ => by
    obtain ⟨hz, hTI, ⟨a, b, c, hTO⟩, h1, h2, h3, hl1, hl2, hl3⟩ := hst
    have hT : s.TypeIs (.ref (n + 5)) "zip" := ⟨_, hz, rfl⟩
    unfold pyNext
    refine wpAny_bind (wpAny_attempt (wpAny_callSpecial?_slot (name := Str.ofString "__next__") hT F.slot_zip_next
      (wpAny_call_entry F.slot_zip_next hT F.entry_zip_next (zip3_end hh D hz hTI hTO h1 hl1 (Array.getElem?_eq_none (Nat.le_refl _)) fun h' e hk he => ?_) (F.args_zip_next_1 _))))
    obtain ⟨o, ho, hc⟩ := he
    refine wpAny_bind (wpAny_isInstance (T := "StopIteration") (b := true) ⟨o, ho, hc⟩ isSubtype_stop ?_)
    exact wpAny_pure (hQ h' s.toks fun c o hc e => hk c o (fun x => hc (by simp [z3wr, x])) (fun x => hc (by simp [z3wr, x])) e)
end
noncomputable def Z3End (h₀ : Heap) (L : Addr) (s : Shared) (own : List (Addr × Obj)) (wr : List Addr) (J : (Str → Option Value) → List (Addr × Obj) → Prop) (f : Flow) (s' : Shared) : Prop :=
  f = .next ∧ ∃ h' tk' m' nw', s' = { s with heap := h', toks := tk' } ∧ Fr h₀ L h' m' ∧ News h₀ L h' (nw' ++ own) ∧ (∀ p ∈ nw', p.1 ∉ wr) ∧ J m' nw'
section
variable {prog : Program} {w : World} {A : Around} {E : Value → Shared → Prop} {s : Shared} {env : Env} {h₀ : Heap}
theorem zip3_for {target : Expr} {elts : List Expr} {kk : Nat} {pos : Pos} {body : List Stmt} {Q : Flow → Shared → Prop} {l1 l2 l3 : Addr} {xs ys zs : List Value} {n1 n2 n3 : Nat} {m : Str → Option Value} {all : List (Addr × Obj)} (ht : target = .Tuple elts kk pos) (hh : A.handled = none)
    (F : Fr h₀ env.locals s.heap m) (N : News h₀ env.locals s.heap all) (m1 : (l1, listOf xs.toArray n1) ∈ all) (m2 : (l2, listOf ys.toArray n2) ∈ all) (m3 : (l3, listOf zs.toArray n3) ∈ all) (hy : ys.length = xs.length) (hu : zs.length = xs.length)
    (news : List (Addr × Obj)) (hn : ∀ p ∈ news, p ∈ all) (J : Nat → (Str → Option Value) → List (Addr × Obj) → Prop) (h0 : J 0 m news)
    (turn : ∀ i x y u T m₁ nw own h tk (wr : List Addr), xs[i]? = some x → ys[i]? = some y → zs[i]? = some u → J i m₁ nw → (∀ p ∈ nw, p.1 ∉ wr) → (∀ b ∈ wr, ∃ o : Obj, (b, o) ∈ own ∧ o.cls ≠ .type "list") → Fr h₀ env.locals h m₁ → News h₀ env.locals h ((T, { cls := .type "tuple", data := .seq #[x, y, u] }) :: (nw ++ own)) →
      wpAny (model prog w) A (assign target env (.ref T)) (fun _ s₃ => wpAny (model prog w) A (execs body env) (Z3End h₀ env.locals s own wr (J (i + 1))) E s₃) E { s with heap := h, toks := tk })
    (done : ∀ m nw h tk, J xs.length m nw → Fr h₀ env.locals h m → News h₀ env.locals h nw → Q .next { s with heap := h, toks := tk }) :
    wpAny (model prog w) A (call (.type "zip") [.ref l1, .ref l2, .ref l3]) (fun xv s₁ => wpAny (model prog w) A (pyIter xv) (fun it s₂ => TurnsAt prog w A h₀ env target body Q E it s₂) E s₁) E s := by
  have hl1 : s.heap.IsList l1 xs.toArray := News.isList N m1
  have hl2 : s.heap.IsList l2 ys.toArray := News.isList N m2
  have hl3 : s.heap.IsList l3 zs.toArray := News.isList N m3
  have q1 : l1 < s.heap.objs.size := Heap.lt_size (N _ m1).1
  have q2 : l2 < s.heap.objs.size := Heap.lt_size (N _ m2).1
  have q3 : l3 < s.heap.objs.size := Heap.lt_size (N _ m3).1
  have hLs : env.locals < s.heap.objs.size := F.ns.lt
  refine call_zip_3 hl1 hl2 hl3 fun h' a1 a2 a3 a4 a5 a6 a7 hk => ?_
  refine wpAny_pyIter_zip a1 ?_
  refine ⟨_, _, _, _, _, _, _, m, news, J, rfl, zip3_turns ht hh (zip3_apart q1 q2 q3) xs.toArray ys.toArray zs.toArray (by simpa using hy) (by simpa using hu), ?_, ?_, ?_, ⟨a1, a2, ⟨_, _, _, a3⟩, a4, a5, a6, hl1.at fun o e => hk _ o e, hl2.at fun o e => hk _ o e, hl3.at fun o e => hk _ o e⟩, F.keeps hk, (fun p hp => N.grown hk p (hn p hp)), h0, ?_, ?_⟩
  · intro hm
    simp only [z3fp, List.mem_cons, List.not_mem_nil, or_false] at hm
    have ne := (N _ m1).2.1
    have ne2 := (N _ m2).2.1
    have ne3 := (N _ m3).2.1
    have f : ∀ b, env.locals ≠ s.heap.objs.size + b := fun b => Nat.ne_of_lt (Nat.lt_of_lt_of_le hLs (Nat.le_add_right _ _))
    rcases hm with h | h | h | h | h | h | h | h | h
    · exact f _ h
    · exact f _ h
    · exact f _ h
    · exact f 0 h
    · exact f _ h
    · exact f _ h
    · exact ne h.symm
    · exact ne2 h.symm
    · exact ne3 h.symm
  · intro b hb
    simp only [z3wr, List.mem_cons, List.not_mem_nil, or_false] at hb
    rcases hb with rfl | rfl | rfl | rfl | rfl
    · exact ktu_new F (Nat.le_add_right _ _)
    · exact ktu_new F (Nat.le_add_right _ _)
    · exact ktu_new F (Nat.le_refl _)
    · exact ktu_new F (Nat.le_add_right _ _)
    · exact ktu_new F (Nat.le_add_right _ _)
  · intro p hp hm
    simp only [z3wr, List.mem_cons, List.not_mem_nil, or_false] at hm
    have hl : p.1 < s.heap.objs.size := Heap.lt_size (N p (hn p hp)).1
    have f : ∀ b, p.1 ≠ s.heap.objs.size + b := fun b => Nat.ne_of_lt (Nat.lt_of_lt_of_le hl (Nat.le_add_right _ _))
    rcases hm with h | h | h | h | h
    · exact f _ h
    · exact f _ h
    · exact f 0 h
    · exact f _ h
    · exact f _ h
  · rintro i v m₁ nw h₁ tk₁ own hi ⟨T, x, y, u, rfl, hx, hy', hu', hT, hTn⟩ hJ hoff hown hown2 hown3 hst F₁ N₁
    have hw : ∀ b ∈ z3wr s.heap.objs.size, ∃ o : Obj, (b, o) ∈ own ∧ o.cls ≠ .type "list" := by
      intro b hb
      have hb0 : h₀.get? b = none := by
        simp only [z3wr, List.mem_cons, List.not_mem_nil, or_false] at hb
        rcases hb with rfl | rfl | rfl | rfl | rfl
        · exact ktu_new F (Nat.le_add_right _ _)
        · exact ktu_new F (Nat.le_add_right _ _)
        · exact ktu_new F (Nat.le_refl _)
        · exact ktu_new F (Nat.le_add_right _ _)
        · exact ktu_new F (Nat.le_add_right _ _)
      obtain ⟨b1, -, ⟨c1, c2, c3, b3⟩, ⟨p1, b4, k4, -⟩, ⟨p2, b5, k5, -⟩, ⟨p3, b6, k6, -⟩, -, -, -⟩ := hst
      have sub : b ∈ z3fp s.heap.objs.size l1 l2 l3 := by
        simp only [z3wr, z3fp, List.mem_cons, List.not_mem_nil, or_false] at hb ⊢
        rcases hb with h | h | h | h | h <;> simp [h]
      have ex : ∃ o : Obj, h₁.get? b = some o ∧ o.cls ≠ .type "list" := by
        simp only [z3wr, List.mem_cons, List.not_mem_nil, or_false] at hb
        rcases hb with rfl | rfl | rfl | rfl | rfl
        · exact ⟨_, b1, fun e => absurd (Value.type.inj e) (by decide)⟩
        · exact ⟨_, b3, fun e => absurd (Value.type.inj e) (by decide)⟩
        · exact ⟨_, b4, fun e => by rw [k4] at e; exact absurd (Value.type.inj e) (by decide)⟩
        · exact ⟨_, b5, fun e => by rw [k5] at e; exact absurd (Value.type.inj e) (by decide)⟩
        · exact ⟨_, b6, fun e => by rw [k6] at e; exact absurd (Value.type.inj e) (by decide)⟩
      obtain ⟨o, ho, hc⟩ := ex
      exact ⟨o, hown3 b sub hb0 o ho, hc⟩
    have N₂ : News h₀ env.locals h₁ (nw ++ own) := fun p hp => N₁ p ((List.mem_append.mp hp).elim (fun h => List.mem_append.mpr (.inr h)) fun h => List.mem_append.mpr (.inl h))
    have N₃ : News h₀ env.locals h₁ ((T, { cls := .type "tuple", data := .seq #[x, y, u] }) :: (nw ++ own)) := fun p hp => by
      rcases List.mem_cons.mp hp with rfl | hp
      · have hTs : s.heap.objs.size ≤ T := Nat.le_of_lt (Nat.lt_of_le_of_lt (Nat.le_add_right _ 5) hTn)
        exact ⟨hT, Nat.ne_of_gt (Nat.lt_of_lt_of_le hLs hTs), ktu_new F hTs⟩
      · exact N₂ p hp
    refine wpAny_mono (turn i x y u T m₁ nw own h₁ tk₁ _ (by simpa using hx) (by simpa using hy') (by simpa using hu') hJ hoff hw F₁ N₃) (fun _ s₃ h3 => wpAny_mono h3 (fun f s₄ h4 => ?_) fun _ _ e => e) fun _ _ e => e
    obtain ⟨rfl, h', tk', m', nw', rfl, F', N', hoff', hJ'⟩ := h4
    exact ⟨rfl, h', tk', m', nw', rfl, F', fun p hp => N' p ((List.mem_append.mp hp).elim (fun h => List.mem_append.mpr (.inr h)) fun h => List.mem_append.mpr (.inl h)), hoff', hJ'⟩
  · intro h' tk m' nw F' N' _ hJ
    exact done m' nw h' tk (by simpa using hJ) F' N'
end
theorem big_facts : ∃ y z : Str, Hx (10 ^ Int.toNat 100) y ∧ y.length ≤ 1000 ∧ Sln y 2 z ∧ z.length ≤ 1000 ∧ Eqs (numS (10 ^ Int.toNat 100)) (Str.ofString "0x" ++ z) true := by
  have h0 : (0 : Int) ≤ 10 ^ Int.toNat 100 := by decide +kernel
  have h1 : (10 : Int) ^ Int.toNat 100 < 10 ^ 120 := by decide +kernel
  have h2 : ¬ ((10 : Int) ^ Int.toNat 100).toNat < 10 ^ 100 := by decide +kernel
  generalize (10 : Int) ^ Int.toNat 100 = n at *
  have hh := hexd_len h1
  refine ⟨_, _, rfl, ?_, rfl, ?_, ?_⟩
  · rw [hex_text h0, S_len, List.length_append]; show 2 + (hexd n).length ≤ 1000; omega
  · rw [hex_slice h0, S_len]; show (hexd n).length ≤ 1000; omega
  · have e : numS n = Str.ofString "0x" ++ Txt.slice (baseText "0x" 16 n) (some 2) none := by
      rw [hex_slice h0, numS_S h0, show Str.ofString "0x" = S [48, 120] by decide, S_append]
      unfold numL
      rw [if_neg]
      · rfl
      · intro hc
        refine h2 ((Nat.length_toDigits_le_iff (by decide) (by decide)).mp ?_)
        rw [show (dec n.toNat).length = (Nat.toDigits 10 n.toNat).length from List.length_map _] at hc
        exact hc
    show (numS n == _) = true
    rw [e]
    exact beq_self_eq_true _
theorem quo_fact : Eqs (quoS #[34, 92, 10]) (Str.ofString "\"\\x22\\x5c\\x0a\"") true := by show _ = _; decide +kernel
theorem forC_range {prog : Program} {w : World} {A : Around} {s : Shared} {env : Env} {h₀ : Heap} {x : Str} {px : Pos} {body : List Stmt} {r : Addr} {a b : Int} {t u v : Tok} {n : Nat} {m₀ : Map} {news₀ : Ledger} {Q : Flow → Shared → Prop}
    (hh : A.handled = none) (hr : IsRange s.heap r a b 1 t u v) (hsm : Builtin.Range.small a b 1 = true) (hn : Builtin.Range.rangeSize a b 1 = ((n : Nat) : Int))
    (hx : env.kindOf x = some .local) (hp : (env.scope.kind == .class || (env.scope.kind == .module && env.locals != env.globals)) = false)
    (J : Map → Ledger → Prop) (F : Fr h₀ env.locals s.heap m₀) (N : News h₀ env.locals s.heap news₀) (h0 : J m₀ news₀) (ha : ∀ m nw, J m nw → nw.map (·.1) = news₀.map (·.1))
    (turn : ∀ I oI (i : Nat) t m nw h tk, i < n → J m nw → Fr h₀ env.locals h (fun y => if y = x then some (.int (a + (i : Int)) t) else m y) → News h₀ env.locals h ((I, oI) :: nw) → (∀ p ∈ nw, p.1 < I) →
      wpC (model prog w) A (execs body env) (fun f s' => match f with
        | .next => ∃ h' tk' m' nw', s' = { s with heap := h', toks := tk' } ∧ Fr h₀ env.locals h' m' ∧ News h₀ env.locals h' ((I, oI) :: nw') ∧ J m' nw'
        | .ret v => Q (.ret v) s'
        | _ => False) NoE { s with heap := h, toks := tk })
    (done : ∀ m nw h tk, J m nw → Fr h₀ env.locals h m → News h₀ env.locals h nw → Q .next { s with heap := h, toks := tk }) :
    wpAny (model prog w) A (pyIter (.ref r)) (fun it s₂ => codeC (model prog w) A (.forLoop (.Name x px) it body [] env) (fun r s' => match r with | .ok f => Q f s' | .error e => cameBackBy (model prog w) A env NoE e s') s₂) NoE s := by
  refine wpAny_pyIter_range hr hsm ?_
  rw [hn]
  have lt : ∀ p ∈ news₀, p.1 < s.heap.objs.size := fun p hp => Heap.lt_size (N p hp).1
  have lt2 : ∀ nw : Ledger, nw.map (·.1) = news₀.map (·.1) → ∀ p ∈ nw, p.1 < s.heap.objs.size := fun nw e p hp => by
    have hm : p.1 ∈ news₀.map (·.1) := e ▸ List.mem_map_of_mem hp
    obtain ⟨q, hq, e'⟩ := List.mem_map.mp hm
    rw [← e']; exact lt q hq
  refine forC (σ := Unit) (I := s.heap.objs.size) (itO := fun i => { cls := .type "range_iterator", data := .fields #[rawInt (a + (i : Nat) * 1), rawInt ((n : Int) - (i : Nat)), rawInt 1] }) (St := fun i h => IsRangeIter h s.heap.objs.size (a + (i : Nat) * 1) ((n : Int) - (i : Nat)) 1)
    (LCg.range_walks hh a n) (fun i h => Iff.rfl) hx hp (fun _ _ m nw => J m nw) () (F.push _) (fun p hp => ?_) h0 (fun i c m nw hJ p hp => Nat.ne_of_lt (lt2 nw (ha m nw hJ) p hp)) ?_ ?_
  · rcases List.mem_cons.mp hp with rfl | hp
    · refine ⟨?_, fun e => absurd F.ns.lt (by rw [← e]; exact Nat.lt_irrefl _), next_is_new F⟩
      simpa using Heap.get?_push_size _ rfl
    · exact ⟨Heap.get?_push_of_some _ (N p hp).1, (N p hp).2⟩
  · rintro i v c m nw h tk hi ⟨t, rfl⟩ hJ F₁ N₁
    refine wpC_mono (turn _ _ i t m nw h tk hi hJ F₁ N₁ (lt2 nw (ha m nw hJ))) (fun f s' q => ?_) fun _ _ x => x
    cases f with
    | next =>
      obtain ⟨h', tk', m', nw', e, F', N', J'⟩ := q
      exact ⟨h', tk', (), m', nw', e, F', N', J'⟩
    | _ => exact q
  · intro c m nw h tk hJ F₁ N₁
    exact done m nw h tk hJ F₁ N₁

theorem comp_st {prog : Program} {w : World} {A : Around} {h₀ : Heap} {L : Addr} {m : Map} {env : Env} {elt : Expr} {x : Str} {scope : Scope} {cl : List (Str × Addr)} {s : Shared} {S : Ledger → Prop} {P : Nat → Value → Prop} {Fin : List Value → Ledger → Prop} {n : Nat} {news : Ledger}
    (St : Nat → List Value → Ledger → Prop) (h0 : St 0 [] news)
    (turn : ∀ i v ys nw I oI C oC D m₂ h tk (E' : Value → Shared → Prop), i < n → P i v → St i ys nw → LCg.NsObj oC m₂ → m₂ x = some v → Fr h₀ L h m → News h₀ L h ((I, oI) :: (C, oC) :: (D, LCg.lst ys) :: nw) → LCg.Off3 I C D nw →
      wpAny (model prog w) A (eval elt (compEnvC scope cl C env)) (LCg.CompEnd h₀ L m { s with heap := h, toks := tk } I oI C oC D (LCg.lst ys) S (fun y nw' => St (i + 1) (ys ++ [y]) nw')) E' { s with heap := h, toks := tk })
    (fin : ∀ ys nw, St n ys nw → Fin ys nw) : LCg.CompRest prog w A h₀ L m env elt x scope cl s S P Fin n 0 [] news := by
  have key : ∀ (j i : Nat) (ys : List Value) (nw : Ledger), i + j = n → St i ys nw → LCg.CompRest prog w A h₀ L m env elt x scope cl s S P Fin j i ys nw := by
    intro j
    induction j with
    | zero =>
      intro i ys nw e hs
      obtain rfl : i = n := by omega
      exact LCg.CompRest.zero (fin ys nw hs)
    | succ j ih =>
      intro i ys nw e hs
      refine LCg.CompRest.succ ?_
      intro v I oI C oC D m₂ h tk E' hv hC hx F N off ne
      refine wpAny_mono (turn i v ys nw I oI C oC D m₂ h tk E' (by omega) hv hs hC hx F N off) (fun y s₂ hq => ?_) fun _ _ e => e
      obtain ⟨h', tk', nw', e', F', N', off', hS, hn⟩ := hq
      exact ⟨h', tk', nw', e', F', N', off', hS, ih (i + 1) _ nw' (by omega) hn⟩
  exact key n 0 [] news (by omega) h0

theorem wpAny_noE {α : Type} {M : Model} {A : Around} {E : Value → Shared → Prop} {s : Shared} {t : Sem α} {Q : α → Shared → Prop} (h : wpAny M A t Q NoE s) : wpAny M A t Q E s := wpAny_mono h (fun _ _ x => x) fun _ _ x => x.elim
section
variable {prog : Program} {w : World} {A : Around} {E : Value → Shared → Prop} {s : Shared} {h₀ : Heap} {L : Addr} {m : Map} {env : Env}
theorem ListComp_B {elt iter : Expr} {x : Str} {px : Pos} {scope : Scope} {cl : List (Str × Addr)} {pos : Pos} {Q : Value → Shared → Prop} (F₀ : Fr h₀ L s.heap m)
    (hclos : closureFor scope env = pure cl) (hcell : ∀ y ∈ scope.names, y.2 ≠ .cell) (hkind : scope.kind = .function)
    (hnames : ∀ y ∈ scope.names, y.2 = .local → scope.names.lookup y.1 = some .local) (hx : scope.names.lookup x = some .local)
    (h : wpAny (model prog w) A (eval iter env) (fun xv s₁ => ∃ b t news, xv = .bytes b t ∧ A.handled = none ∧ Fr h₀ L s₁.heap m ∧ News h₀ L s₁.heap news ∧ b.size ≤ sizeLine ∧
      ∀ s₂ : Shared, (∃ h, s₂ = { s₁ with heap := h }) → LCg.CompRest prog w A h₀ L m env elt x scope cl s₂ (fun _ => True) (fun i v => ∃ (c : UInt8) (t : Tok), b[i]? = some c ∧ v = .int (c.toNat : Int) t) (LCg.FinE h₀ L m s₂ Q) b.size 0 [] news) E s)
    (hs : ∀ x, foldedSetIterable iter env x = pure x := by intro _; rfl) :
    wpAny (model prog w) A (eval (.ListComp elt [⟨.Name x px, iter, [], 0⟩] scope pos) env) Q E s := by
  rw [eval_ListComp]
  refine wpAny_comprehension_free (use := none) rfl hs hclos hkind hnames (wpAny_mono h (fun xv s₁ h₁ => ?_) fun _ _ e => e)
  obtain ⟨b, t, news, rfl, hh, F, N, hsz, R⟩ := h₁
  refine KBw.pyIter_bytes ?_
  refine LCg.block_U (S := fun _ => True) (KBw.walks hh s₁.heap.objs.size b t) hsz (fun i h st => by obtain ⟨o, e, _⟩ := st; exact ⟨o, e⟩) (fun i h h' o nw st e e' _ _ _ => by obtain ⟨o', q, r⟩ := st; rw [e] at q; cases q; exact ⟨o, e', r⟩) hcell hkind hx ⟨_, Heap.get?_push_size _ rfl, rfl, rfl⟩ (fun b hb => ?_)
      (F.keeps fun _ _ e => Heap.get?_push_of_some _ e) (N.grown fun _ _ e => Heap.get?_push_of_some _ e) (Nat.ne_of_lt F.ns.lt) (next_is_new F) (fun p hp => Nat.ne_of_lt (Heap.lt_size (N p hp).1)) trivial (R _ ⟨_, rfl⟩) ?_
  · rw [List.mem_singleton.mp hb]
    show s₁.heap.objs.size < (s₁.heap.push _).objs.size
    rw [Heap.size_push]; exact Nat.lt_succ_self _
  · intro D C h tk m' ys news' F' N' o1 hn hC₀ hD₀ hCL hDL hCD offC fin
    refine ⟨m', hn, fun h'' hs'' => fin D h'' tk (F'.change hs'' hCL hC₀) (fun p hp => ?_) o1⟩
    refine ⟨hs''.extBut _ _ ?_ (N' p hp).1, (N' p hp).2⟩
    rcases List.mem_cons.mp hp with rfl | hp
    · exact Ne.symm hCD
    · exact offC p hp
open PySem.SeqAt in
noncomputable def EqAll (A : Around) (s : Shared) : List Value → List Value → Prop
  | [], [] => True
  | v :: vs, w :: ws => EqAt A s v w true ∧ EqAll A s vs ws
  | _, _ => False
open PySem.SeqAt in
theorem EqAll.get {A : Around} {s : Shared} : ∀ {vs ws : List Value}, EqAll A s vs ws → vs.length = ws.length ∧ ∀ j (h1 : j < vs.length) (h2 : j < ws.length), EqAt A s vs[j] ws[j] true
  | [], [], _ => ⟨rfl, fun j h1 => absurd h1 (Nat.not_lt_zero _)⟩
  | v :: vs, w :: ws, h => ⟨by rw [List.length_cons, List.length_cons, (EqAll.get h.2).1], fun j h1 h2 => by
    cases j with
    | zero => exact h.1
    | succ j => exact (EqAll.get h.2).2 j (Nat.lt_of_succ_lt_succ h1) (Nat.lt_of_succ_lt_succ h2)⟩
  | [], _ :: _, h => h.elim
  | _ :: _, [], h => h.elim
open PySem.SeqAt in
theorem ne_all {l b : Addr} {xs ys : List Value} {Q : Value → Shared → Prop} (hl : s.heap.IsList l xs.toArray) (hb : s.heap.IsList b ys.toArray) (h : EqAll A.in1 s xs ys) (hu : A.units < cLine) (q : Q (.bool false) s) : wpAny (model prog w) A (compareOp .NotEq (.ref l) (.ref b)) Q E s := by
  obtain ⟨h1, h2⟩ := h.get
  refine RcNeAt.lists (e := fun _ => true) hl hb (by simpa using h1) hu (fun j j1 j2 => ?_) prog w E Q ?_
  · simpa using h2 j (by simpa using j1) (by simpa using j2)
  · have e : ((List.range xs.toArray.size).all fun _ => true) = true := List.all_eq_true.mpr fun _ _ => rfl
    rw [e]; exact q
open PySem.SeqAt in
theorem eqAt_tup {l b : Addr} {xs ys : List Value} (hne : l ≠ b) (hl : s.heap.IsTuple l xs.toArray) (hb : s.heap.IsTuple b ys.toArray) (h : EqAll A.in1 s xs ys) (hu : A.units < cLine) : EqAt A s (.ref l) (.ref b) true := by
  obtain ⟨h1, h2⟩ := h.get
  have e := RcAt.tuples (e := fun _ => true) hl hb hu (fun j j1 j2 => by simpa using h2 j (by simpa using j1) (by simpa using j2))
  have e2 : ((List.range (min xs.toArray.size ys.toArray.size)).all (fun _ => true) && xs.toArray.size == ys.toArray.size) = true := by
    rw [show ((List.range (min xs.toArray.size ys.toArray.size)).all fun _ => true) = true from List.all_eq_true.mpr fun _ _ => rfl]
    simpa using h1
  rw [e2] at e
  exact EqAt.of_refs hne e
open PySem.SeqAt in
theorem ne_tup {l b : Addr} {xs ys : List Value} {Q : Value → Shared → Prop} (hl : s.heap.IsTuple l xs.toArray) (hb : s.heap.IsTuple b ys.toArray) (h : EqAll A.in1 s xs ys) (hu : A.units < cLine) (q : Q (.bool false) s) : wpAny (model prog w) A (compareOp .NotEq (.ref l) (.ref b)) Q E s := by
  obtain ⟨h1, h2⟩ := h.get
  refine RcNeAt.tuples (e := fun _ => true) hl hb hu (fun j j1 j2 => by simpa using h2 j (by simpa using j1) (by simpa using j2)) prog w E Q ?_
  have e2 : ((List.range (min xs.toArray.size ys.toArray.size)).all (fun _ => true) && xs.toArray.size == ys.toArray.size) = true := by
    rw [show ((List.range (min xs.toArray.size ys.toArray.size)).all fun _ => true) = true from List.all_eq_true.mpr fun _ _ => rfl]
    simpa using h1
  rw [e2]; exact q
open PySem.SeqAt in
theorem eqAt_str (x : Str) (t u : Tok) : EqAt A s (.str x t) (.str x u) true := by
  have := EqAt.str_str (A := A) (s := s) x t x u
  rwa [beq_self_eq_true] at this
open PySem.SeqAt in
theorem eqAt_int (x : Int) (t u : Tok) : EqAt A s (.int x t) (.int x u) true := by
  have := EqAt.int_int (A := A) (s := s) x t x u
  rwa [beq_self_eq_true] at this
open PySem.SeqAt in
theorem eqAt_bytes (b : Array UInt8) (t u : Tok) : EqAt A s (.bytes b t) (.bytes b u) true := fun prog w E Q hq => PySem.W.eqBool_bytes (by rw [decide_eq_true rfl]; exact hq)
end

open PySem.SeqAt in
theorem eqAll_cons {A : Around} {s : Shared} {v w : Value} {vs ws : List Value} (h1 : EqAt A s v w true) (h2 : EqAll A s vs ws) : EqAll A s (v :: vs) (w :: ws) := ⟨h1, h2⟩
theorem eqAll_nil {A : Around} {s : Shared} : EqAll A s [] [] := trivial

theorem ne_cell {g h : Heap} {L c : Addr} {nw : Ledger} {p : Addr × Obj} {o : Obj} {v : Option Value} (N : News g L h nw) (hp : p ∈ nw) (hc : (c, o) ∈ nw) (hd : o.data = .cell v) (hpd : ∀ v, p.2.data ≠ .cell v) : p.1 ≠ c := by
  intro e
  have e1 := (N _ hp).1
  have e2 := (N _ hc).1
  rw [e, e2] at e1
  have e3 : o = p.2 := Option.some.inj e1
  exact hpd v (by rw [← e3]; exact hd)
open PySem.SeqAt in
theorem rows_eq {A : Around} {s : Shared} {g : Heap} {L : Addr} {nw : Ledger} {rows : Nat → Row} (N : News g L s.heap nw) (hu : A.units + 1 < cLine) (hv : ∀ i t u, EqAt A.in1 s ((rows i).val t) ((rows i).val u) true) : ∀ (rs ds : Ledger) (k : Nat), rs.length = ds.length → (∀ p ∈ rs, p ∈ nw) → (∀ p ∈ ds, p ∈ nw) → (∀ p ∈ rs, ∀ q ∈ ds, q.1 < p.1) → (∀ i p, rs[i]? = some p → RowIs (rows (k + i)) p.2) → (∀ i p, ds[i]? = some p → RowIs (rows (k + i)) p.2) → EqAll A s (refsOf rs) (refsOf ds)
  | [], [], _, _, _, _, _, _, _ => trivial
  | [], _ :: _, _, e, _, _, _, _, _ => by simp at e
  | _ :: _, [], _, e, _, _, _, _, _ => by simp at e
  | p :: rs, q :: ds, k, e, m1, m2, hne, h1, h2 => by
    refine ⟨?_, rows_eq N hu hv rs ds (k + 1) (by simpa using e) (fun x hx => m1 x (.tail _ hx)) (fun x hx => m2 x (.tail _ hx)) (fun x hx y hy => hne x (.tail _ hx) y (.tail _ hy)) (fun i x hx => ?_) (fun i x hx => ?_)⟩
    · obtain ⟨a1, a2, a3, a4, ea⟩ := h1 0 p rfl
      obtain ⟨b1, b2, b3, b4, eb⟩ := h2 0 q rfl
      have np := (N _ (m1 p (.head _))).1
      have nq := (N _ (m2 q (.head _))).1
      rw [ea] at np
      rw [eb] at nq
      refine eqAt_tup (Nat.ne_of_gt (hne p (.head _) q (.head _))) ⟨_, np, rfl, _, rfl⟩ ⟨_, nq, rfl, _, rfl⟩ ?_ (by omega)
      exact eqAll_cons (eqAt_str _ _ _) (eqAll_cons (eqAt_str _ _ _) (eqAll_cons (eqAt_int _ _ _) (eqAll_cons (hv _ _ _) eqAll_nil)))
    · have := h1 (i + 1) x (by simpa using hx)
      rwa [show k + (i + 1) = k + 1 + i by omega] at this
    · have := h2 (i + 1) x (by simpa using hx)
      rwa [show k + (i + 1) = k + 1 + i by omega] at this
open PySem.SeqAt in
theorem vals_eq {A : Around} {s : Shared} (b : Array UInt8) (r n : Int) (i : Nat) (t u : Tok) : EqAt A s ((rowsOf b r n i).val t) ((rowsOf b r n i).val u) true := by
  unfold rowsOf
  split
  · split
    · show EqAt A s (val3 b r n (i / 2) t) (val3 b r n (i / 2) u) true
      generalize i / 2 = j
      rcases j with _ | _ | j
      · exact eqAt_bytes _ _ _
      · exact eqAt_int _ _ _
      · exact eqAt_int _ _ _
    · exact EqAt.same _
  · split
    · exact EqAt.same _
    · split <;> exact EqAt.same _
section
local macro_rules | `(tactic| walk_at "call ref") => `(tactic| ((with_reducible show wpAny _ _ (call (Value.ref 28) _) _ _ _); refine fn_useA (num_ok _ _ _ _ (by first | with_reducible assumption | decide) (by first | with_reducible assumption | decide)) ?_; intro t' h' tk' F' N'))
local macro_rules | `(tactic| walk_at "call ref") => `(tactic| ((with_reducible show wpAny _ _ (call (Value.ref 42) _) _ _ _); refine fn_useA (quo_ok _ _ _ _ (by first | with_reducible assumption | decide)) ?_; intro t' h' tk' F' N'))
local macro_rules | `(tactic| walk_at "call builtin:len") => `(tactic| k_dflt (refine len_g (by assumption) (by assumption) (by omega) ?_))
local macro_rules | `(tactic| walk_at "subscriptTail Name Constant ref int") => `(tactic| ((with_reducible show wpAny _ _ (subscriptTail _ _ (Value.ref _) (Value.int _ _)) _ _ _); k_dflt (refine item_tupleL (News.isTup (by assumption) (by k_mem)) (by decide) (by decide) rfl rfl ?_)))
local macro_rules | `(tactic| walk_at "call builtin:str.join") => `(tactic| (refine join_listW (News.isList (by assumption) (by first | exact .head _ | k_mem)) (by assumption) (by decide) (by first | assumption | (simp only [List.length_map]; omega)) ?_; intro _ _))
local macro_rules | `(tactic| walk_at "eval Name") => `(tactic| ((with_reducible show wpAny _ _ (eval (Expr.Name _ _) (compEnvC _ _ _ _)) _ _ _); k_dflt (first
  | refine LCgL.ld_own (by assumption) (by k_mem) (by with_reducible assumption) (by with_reducible assumption) ?_
  | refine LCgL.ld_global (by assumption) (by with_reducible assumption) (by with_reducible assumption) (by k_is) ?_
  | (refine' lcf_cell ?N ?c ?m ?d ?_ ?a ?b; (case a => rfl); (case b => rfl); (case N => assumption); (case c => rfl); (case m => k_mem); (case d => with_reducible assumption)))))
local macro_rules | `(tactic| walk_at "eval Name") => `(tactic| ((with_reducible show wpAny _ _ (eval (Expr.Name _ _) (envX _ _ _ _ _ _)) _ _ _); name_kind "cell"; k_dflt (refine' ldCN ?kcN ?kcc ?kcm ?kcd ?_; (case kcN => assumption); (case kcc => rfl); (case kcm => k_mem); (case kcd => with_reducible assumption))))
local macro_rules | `(tactic| walk_at "eval Name") => `(tactic| ((with_reducible show wpAny _ _ (eval (Expr.Name _ _) (envX _ _ _ _ _ _)) _ _ _); name_kind "local"; k_dflt (refine' nameX_L ?kF ?kv ?_ ?ka ?kb; (case kF => assumption); (case ka => rfl); (case kb => rfl); (case kv => rfl))))
local macro_rules | `(tactic| walk_at "call ref") => `(tactic| ((with_reducible show wpAny _ _ (call (Value.ref 257) _) _ _ _); refine wpAny_noE (fn_useA (fn_on (by assumption)) ?_); intro u' h' tk' F' N'))
local macro_rules | `(tactic| walk_at "callWith ref") => `(tactic| ((with_reducible show wpAny _ _ (callWith _ (Value.ref _) _ (backTo _ (starEach [] _)) []) _ _ _); (with_reducible refine' callWith_K0 ?k1 ?k2 ?_); (case k1 => refine' Frag.In.keeps ?kx (Fr.keep ?kf); (case kf => with_reducible assumption); (case kx => with_reducible assumption)); (case k2 => k_dflt k_is); (try dsimp only [List.nil_append, List.cons_append])))
theorem bytes_ints {vs : List Value} {B : Int} (h : ∀ v ∈ vs, ∃ n t, v = Value.int n t ∧ 0 ≤ n ∧ n < B) : ∃ ns, IntsAre vs ns ∧ ∀ n ∈ ns, 0 ≤ n ∧ n < B := by
  induction vs with
  | nil => exact ⟨[], .nil, fun _ h => by cases h⟩
  | cons v vs ih =>
    obtain ⟨n, t, rfl, hn⟩ := h _ (.head _)
    obtain ⟨ns, hi, hb⟩ := ih fun v hv => h v (.tail _ hv)
    exact ⟨n :: ns, .cons _ _ hi, List.forall_mem_cons.mpr ⟨hn, hb⟩⟩
noncomputable def J7 (b : Array UInt8) (r n : Int) (BS : Ledger) (m0 : Map) (i : Nat) (m : Map) (nw : Ledger) : Prop :=
  ∃ DU ds c tb vt vk vv, m = (fun y => if y = Str.ofString "begin" then some (.int (beg3 b r n i) tb) else if y = Str.ofString "due" then some (.ref DU) else if y = Str.ofString "value" then vv else if y = Str.ofString "kind" then vk else if y = Str.ofString "text" then vt else m0 y) ∧
    nw = (DU, listOf (refsOf ds).toArray c) :: (ds ++ BS) ∧ ds.length = 2 * i ∧ RowsAre (rowsOf b r n) ds
theorem J7_start {b : Array UInt8} {r n : Int} {BS : Ledger} {M : Map} {tb : Tok} {DU : Addr} (h1 : M (Str.ofString "begin") = some (.int 0 tb)) (h2 : M (Str.ofString "due") = some (.ref DU)) : J7 b r n BS M 0 M ((DU, listOf #[] 0) :: BS) := by
  refine ⟨DU, [], 0, tb, M (Str.ofString "text"), M (Str.ofString "kind"), M (Str.ofString "value"), ?_, rfl, rfl, fun i p h => by simp at h⟩
  funext y
  by_cases e1 : y = Str.ofString "begin"
  · subst e1; rw [if_pos rfl, h1]; rfl
  · by_cases e2 : y = Str.ofString "due"
    · subst e2; rw [if_neg e1, if_pos rfl, h2]
    · by_cases e3 : y = Str.ofString "value"
      · subst e3; rw [if_neg e1, if_neg e2, if_pos rfl]
      · by_cases e4 : y = Str.ofString "kind"
        · subst e4; rw [if_neg e1, if_neg e2, if_neg e3, if_pos rfl]
        · by_cases e5 : y = Str.ofString "text"
          · subst e5; rw [if_neg e1, if_neg e2, if_neg e3, if_neg e4, if_pos rfl]
          · rw [if_neg e1, if_neg e2, if_neg e3, if_neg e4, if_neg e5]
theorem J7_end {h₀ h' : Heap} {L DU' LS D1 D2 T3 DUi : Addr} {s : Shared} {tk : Nat} {own BS ds : Ledger} {wr : List Addr} {M0 : Map} {b : Array UInt8} {r n : Int} {i c' : Nat} {oLS o1 o2 oT oD : Obj} {T : Tok} {v1 v2 v3 : Value} {B1 B2 vv vk vt : Option Value}
    (F : Fr h₀ L h' (fun y => if y = Str.ofString "begin" then some (.int (beg3 b r n i + (txt3 b r n i).length + 2) T) else if y = Str.ofString "due" then some (.ref DU') else if y = Str.ofString "value" then some v1 else if y = Str.ofString "kind" then some v2 else if y = Str.ofString "text" then some v3 else
      if y = Str.ofString "begin" then B1 else if y = Str.ofString "due" then B2 else if y = Str.ofString "value" then vv else if y = Str.ofString "kind" then vk else if y = Str.ofString "text" then vt else M0 y))
    (N : News h₀ L h' ((DU', { cls := .type "list", data := .seq (refsOf ds ++ [Value.ref D1, Value.ref D2]).toArray c' }) :: (LS, oLS) :: (D2, o2) :: (D1, o1) :: (T3, oT) :: (DUi, oD) :: (ds ++ (BS ++ own))))
    (hr : RowsAre (rowsOf b r n) ds) (hl : ds.length = 2 * i) (h1 : RowIs (rowsOf b r n (2 * i)) o1) (h2 : RowIs (rowsOf b r n (2 * i + 1)) o2)
    (hw : ∀ b ∈ wr, ∃ o : Obj, (b, o) ∈ own ∧ o.cls ≠ .type "list") (hoff : ∀ p ∈ (DUi, oD) :: (ds ++ BS), p.1 ∉ wr) (l1 : AllLt D1 (ds ++ (BS ++ own))) (l2 : AllLt D2 (ds ++ (BS ++ own))) :
    Z3End h₀ L s own wr (J7 b r n BS M0 (i + 1)) .next { s with heap := h', toks := tk } := by
  have hown : ∀ q ∈ own, q ∈ ds ++ (BS ++ own) := fun q hq => List.mem_append_right _ (List.mem_append_right _ hq)
  refine ⟨rfl, h', tk, _, (DU', listOf (refsOf (ds ++ [(D1, o1), (D2, o2)])).toArray c') :: ((ds ++ [(D1, o1), (D2, o2)]) ++ BS), rfl, F, news_of N ?_, ?_, DU', ds ++ [(D1, o1), (D2, o2)], c', T, some v3, some v2, some v1, ?_, rfl, by simp [hl]; omega, ?_⟩
  · intro p hp
    rw [refsOf, List.map_append] at hp
    rcases List.mem_cons.mp hp with rfl | hp
    · exact .head _
    · rcases List.mem_append.mp hp with hp | hp
      · rcases List.mem_append.mp hp with hp | hp
        · rcases List.mem_append.mp hp with hp | hp
          · exact .tail _ (.tail _ (.tail _ (.tail _ (.tail _ (.tail _ (List.mem_append_left _ hp))))))
          · rcases List.mem_cons.mp hp with rfl | hp
            · exact .tail _ (.tail _ (.tail _ (.head _)))
            · rw [List.mem_singleton.mp hp]; exact .tail _ (.tail _ (.head _))
        · exact .tail _ (.tail _ (.tail _ (.tail _ (.tail _ (.tail _ (List.mem_append_right _ (List.mem_append_left _ hp)))))))
      · exact .tail _ (.tail _ (.tail _ (.tail _ (.tail _ (.tail _ (hown p hp))))))
  · intro p hp hpw
    obtain ⟨o, ho, hoc⟩ := hw _ hpw
    rcases List.mem_cons.mp hp with rfl | hp
    · have e1 := (N _ (.head _)).1
      have e2 := (N (DU', o) (.tail _ (.tail _ (.tail _ (.tail _ (.tail _ (.tail _ (hown _ ho)))))))).1
      rw [e1] at e2
      have e3 : _ = o := Option.some.inj e2
      exact hoc (by rw [← e3])
    · rcases List.mem_append.mp hp with hp | hp
      · rcases List.mem_append.mp hp with hp | hp
        · exact hoff p (.tail _ (List.mem_append_left _ hp)) hpw
        · rcases List.mem_cons.mp hp with rfl | hp
          · exact Nat.lt_irrefl _ (ktn_ltOf l1 _ (hown _ ho))
          · have e := List.mem_singleton.mp hp
            subst e
            exact Nat.lt_irrefl _ (ktn_ltOf l2 _ (hown _ ho))
      · exact hoff p (.tail _ (List.mem_append_right _ hp)) hpw
  · funext y
    by_cases e1 : y = Str.ofString "begin"
    · subst e1; rfl
    · by_cases e2 : y = Str.ofString "due"
      · subst e2; rfl
      · by_cases e3 : y = Str.ofString "value"
        · subst e3; rfl
        · by_cases e4 : y = Str.ofString "kind"
          · subst e4; rfl
          · by_cases e5 : y = Str.ofString "text"
            · subst e5; rfl
            · simp only [e1, e2, e3, e4, e5, if_false]
  · have := (hr.snoc (p := (D1, o1)) (by rw [hl]; exact h1)).snoc (p := (D2, o2)) (by rw [List.length_append, List.length_singleton, hl]; exact h2)
    simpa using this
theorem x3_of {b : Array UInt8} {r n : Int} {tq tr tn : Tok} {i : Nat} {x : Value} (h : [Value.str (quoS b) tq, .str (runS r) tr, .str (numS n) tn][i]? = some x) : i < 3 ∧ ∃ t, x = .str (txt3 b r n i) t := by
  rcases i with _ | _ | _ | i
  · exact ⟨by omega, _, (Option.some.inj h).symm⟩
  · exact ⟨by omega, _, (Option.some.inj h).symm⟩
  · exact ⟨by omega, _, (Option.some.inj h).symm⟩
  · simp at h
theorem y3_of {t1 t2 t3 : Tok} {i : Nat} {x : Value} (h : [Value.str (Str.ofString "text") t1, .str (Str.ofString "rune") t2, .str (Str.ofString "int") t3][i]? = some x) : ∃ t, x = .str (knd3 i) t := by
  rcases i with _ | _ | _ | i
  · exact ⟨_, (Option.some.inj h).symm⟩
  · exact ⟨_, (Option.some.inj h).symm⟩
  · exact ⟨_, (Option.some.inj h).symm⟩
  · simp at h
theorem u3_of {b : Array UInt8} {r n : Int} {t1 t2 t3 : Tok} {i : Nat} {x : Value} (h : [Value.bytes b t1, .int r t2, .int n t3][i]? = some x) : ∃ t, x = val3 b r n i t := by
  rcases i with _ | _ | _ | i
  · exact ⟨_, (Option.some.inj h).symm⟩
  · exact ⟨_, (Option.some.inj h).symm⟩
  · exact ⟨_, (Option.some.inj h).symm⟩
  · simp at h
/- TURN -/
noncomputable def forOf (b : List Stmt) : List Stmt := match b with
  | _ :: .For _ _ body _ _ :: _ => body
  | _ => []
theorem lit_of {K : Frag} {a : Addr} {o o' : Obj} {P : Prop} (h : K.lookup a = some o) (h' : K.lookup a = some o') (k : o' = o → P) : P := k (Option.some.inj (h'.symm.trans h))
namespace Ep_law_turn
noncomputable def P (w : World) (mean : ExcName → Option Value) (mg : Str → Option Value) (mb : Str → Option Value) (dp : Nat) (un : Nat) (s : Shared) (g : Heap) (L : Addr) (S : Addr) (I : Addr) (vs : List Value) (ns : List Int) (m : Map) (oI : Obj) (o1 : Obj) (o2 : Obj) (v1 : Option Value) (v2 : Option Value) (i : Nat) (t : Tok) (h : Heap) (tk : Nat) (QQ : Flow → Shared → Prop) : Prop := ∀ (name qual : Str) (scope : Scope) (body fb : List Stmt) (params : Arguments) (dV kV doc pm cdv ct oc : Value) (an od : Option Addr) (osl : Array (Option Value)) (ho : (Mine.fr.heap_1 w.params).lookup 333 = some ⟨oc, od, .func (fnOf name qual params body scope dV kV doc pm an cdv ct), osl⟩) (hf : forOf body = fb) (T : Top Mine.view LO mean mg mb g) (X : ∀ _ : 0 = 0, (Mine.fr.heap_1 w.params).In g) (B : ∀ _ : 0 = 0, Below callerA g [] g) (hS : ∀ _ : 0 = 0, g.IsList S vs.toArray) (hI : IntsAre vs ns) (hlen : vs.length ≤ 63) (hd : dp + 20 < recursionLimit) (hu : un + 8 * 20 < cLine) (hi3 : i < 3) (hm : m (Str.ofString "script") = some (.ref S)) (ho1 : o1.data = .cell v1) (ho2 : o2.data = .cell v2) (F3 : ∀ _ : 0 = 0, Fr g L h (fun y => if y = Str.ofString "k" then some (.int (0 + (i : Int)) t) else m y)) (N3 : ∀ _ : 0 = 0, News g L h [(I, oI), (L + 1 + 1, o1), (L + 1, o2)]) (hI3 : ∀ p ∈ [(L + 1 + 1, o1), (L + 1, o2)], p.1 < I), wpC (model PRG w) (ktrTop dp un (some []) qual scope L 333 cdv (cellsFrom (L + 1) scope.names []) []) (execs fb (envX qual scope L 333 cdv (cellsFrom (L + 1) scope.names []))) (fun f s' => match f with
        | .next => ∃ h' tk' m' nw', s' = { s with heap := h', toks := tk' } ∧ Fr g L h' m' ∧ News g L h' ((I, oI) :: nw') ∧ (m' (Str.ofString "script") = some (.ref S) ∧ ∃ o1 o2 : Obj, ∃ v1 v2 : Option Value, nw' = [(L + 1 + 1, o1), (L + 1, o2)] ∧ o1.data = .cell v1 ∧ o2.data = .cell v2)
        | .ret v => QQ (.ret v) s'
        | _ => False) NoE { s with heap := h, toks := tk }
theorem ne : Nonempty (World × (ExcName → Option Value) × (Str → Option Value) × (Str → Option Value) × Nat × Nat × Shared × Heap × Addr × Addr × Addr × (List Value) × (List Int) × Map × Obj × Obj × Obj × (Option Value) × (Option Value) × Nat × Tok × Heap × Nat × (Flow → Shared → Prop)) := ⟨(wld, default, default, default, default, default, (start PRG).1, default, default, default, default, default, default, default, ⟨.none, none, .cell none, #[]⟩, ⟨.none, none, .cell none, #[]⟩, ⟨.none, none, .cell none, #[]⟩, default, default, default, default, default, default, default)⟩
noncomputable def d : World × (ExcName → Option Value) × (Str → Option Value) × (Str → Option Value) × Nat × Nat × Shared × Heap × Addr × Addr × Addr × (List Value) × (List Int) × Map × Obj × Obj × Obj × (Option Value) × (Option Value) × Nat × Tok × Heap × Nat × (Flow → Shared → Prop) := cex ne fun d => P d.1 d.2.1 d.2.2.1 d.2.2.2.1 d.2.2.2.2.1 d.2.2.2.2.2.1 d.2.2.2.2.2.2.1 d.2.2.2.2.2.2.2.1 d.2.2.2.2.2.2.2.2.1 d.2.2.2.2.2.2.2.2.2.1 d.2.2.2.2.2.2.2.2.2.2.1 d.2.2.2.2.2.2.2.2.2.2.2.1 d.2.2.2.2.2.2.2.2.2.2.2.2.1 d.2.2.2.2.2.2.2.2.2.2.2.2.2.1 d.2.2.2.2.2.2.2.2.2.2.2.2.2.2.1 d.2.2.2.2.2.2.2.2.2.2.2.2.2.2.2.1 d.2.2.2.2.2.2.2.2.2.2.2.2.2.2.2.2.1 d.2.2.2.2.2.2.2.2.2.2.2.2.2.2.2.2.2.1 d.2.2.2.2.2.2.2.2.2.2.2.2.2.2.2.2.2.2.1 d.2.2.2.2.2.2.2.2.2.2.2.2.2.2.2.2.2.2.2.1 d.2.2.2.2.2.2.2.2.2.2.2.2.2.2.2.2.2.2.2.2.1 d.2.2.2.2.2.2.2.2.2.2.2.2.2.2.2.2.2.2.2.2.2.1 d.2.2.2.2.2.2.2.2.2.2.2.2.2.2.2.2.2.2.2.2.2.2.1 d.2.2.2.2.2.2.2.2.2.2.2.2.2.2.2.2.2.2.2.2.2.2.2
noncomputable def w : World := d.1
noncomputable def mean : ExcName → Option Value := d.2.1
noncomputable def mg : Str → Option Value := d.2.2.1
noncomputable def mb : Str → Option Value := d.2.2.2.1
noncomputable def dp : Nat := d.2.2.2.2.1
noncomputable def un : Nat := d.2.2.2.2.2.1
noncomputable def s : Shared := d.2.2.2.2.2.2.1
noncomputable def g : Heap := d.2.2.2.2.2.2.2.1
noncomputable def L : Addr := d.2.2.2.2.2.2.2.2.1
noncomputable def S : Addr := d.2.2.2.2.2.2.2.2.2.1
noncomputable def I : Addr := d.2.2.2.2.2.2.2.2.2.2.1
noncomputable def vs : List Value := d.2.2.2.2.2.2.2.2.2.2.2.1
noncomputable def ns : List Int := d.2.2.2.2.2.2.2.2.2.2.2.2.1
noncomputable def m : Map := d.2.2.2.2.2.2.2.2.2.2.2.2.2.1
noncomputable def oI : Obj := d.2.2.2.2.2.2.2.2.2.2.2.2.2.2.1
noncomputable def o1 : Obj := d.2.2.2.2.2.2.2.2.2.2.2.2.2.2.2.1
noncomputable def o2 : Obj := d.2.2.2.2.2.2.2.2.2.2.2.2.2.2.2.2.1
noncomputable def v1 : Option Value := d.2.2.2.2.2.2.2.2.2.2.2.2.2.2.2.2.2.1
noncomputable def v2 : Option Value := d.2.2.2.2.2.2.2.2.2.2.2.2.2.2.2.2.2.2.1
noncomputable def i : Nat := d.2.2.2.2.2.2.2.2.2.2.2.2.2.2.2.2.2.2.2.1
noncomputable def t : Tok := d.2.2.2.2.2.2.2.2.2.2.2.2.2.2.2.2.2.2.2.2.1
noncomputable def h : Heap := d.2.2.2.2.2.2.2.2.2.2.2.2.2.2.2.2.2.2.2.2.2.1
noncomputable def tk : Nat := d.2.2.2.2.2.2.2.2.2.2.2.2.2.2.2.2.2.2.2.2.2.2.1
noncomputable def QQ : Flow → Shared → Prop := d.2.2.2.2.2.2.2.2.2.2.2.2.2.2.2.2.2.2.2.2.2.2.2
theorem main (name qual : Str) (scope : Scope) (body fb : List Stmt) (params : Arguments) (dV kV doc pm cdv ct oc : Value) (an od : Option Addr) (osl : Array (Option Value)) (ho : (Mine.fr.heap_1 w.params).lookup 333 = some ⟨oc, od, .func (fnOf name qual params body scope dV kV doc pm an cdv ct), osl⟩) (hf : forOf body = fb) (T : Top Mine.view LO mean mg mb g) (X : ∀ _ : 0 = 0, (Mine.fr.heap_1 w.params).In g) (B : ∀ _ : 0 = 0, Below callerA g [] g) (hS : ∀ _ : 0 = 0, g.IsList S vs.toArray) (hI : IntsAre vs ns) (hlen : vs.length ≤ 63) (hd : dp + 20 < recursionLimit) (hu : un + 8 * 20 < cLine) (hi3 : i < 3) (hm : m (Str.ofString "script") = some (.ref S)) (ho1 : o1.data = .cell v1) (ho2 : o2.data = .cell v2) (F3 : ∀ _ : 0 = 0, Fr g L h (fun y => if y = Str.ofString "k" then some (.int (0 + (i : Int)) t) else m y)) (N3 : ∀ _ : 0 = 0, News g L h [(I, oI), (L + 1 + 1, o1), (L + 1, o2)]) (hI3 : ∀ p ∈ [(L + 1 + 1, o1), (L + 1, o2)], p.1 < I) : wpC (model PRG w) (ktrTop dp un (some []) qual scope L 333 cdv (cellsFrom (L + 1) scope.names []) []) (execs fb (envX qual scope L 333 cdv (cellsFrom (L + 1) scope.names []))) (fun f s' => match f with
        | .next => ∃ h' tk' m' nw', s' = { s with heap := h', toks := tk' } ∧ Fr g L h' m' ∧ News g L h' ((I, oI) :: nw') ∧ (m' (Str.ofString "script") = some (.ref S) ∧ ∃ o1 o2 : Obj, ∃ v1 v2 : Option Value, nw' = [(L + 1 + 1, o1), (L + 1, o2)] ∧ o1.data = .cell v1 ∧ o2.data = .cell v2)
        | .ret v => QQ (.ret v) s'
        | _ => False) NoE { s with heap := h, toks := tk } := by
  subst hf
  replace X := X rfl
  replace B := B rfl
  replace hS := hS rfl
  replace F3 := F3 rfl
  replace N3 := N3 rfl
  refine' lit_of ho ?hk ?_
  (case hk => k_is)
  intro e
  cases e
  clear ho
  change wpC _ _ (execs (_ :: _) _) _ _ _
  rw [upd_opt hm] at F3
  change Fr g L h _ at F3
  change News g L h _ at N3
  have N4 : News g L h [(L + 1 + 1, o1), (L + 1, o2), (I, oI)] := news_of N3 (by walk_at "sub")
  clear N3
  have li1 : L + 1 + 1 < I := hI3 _ (.head _)
  have li2 : L + 1 < I := hI3 _ (.tail _ (.head _))
  clear hI3
  refine wpC_execs_consA ?_
  repeat' ((fail_if_success (with_reducible show wpAny _ _ (exec (Stmt.For _ _ _ _ _) _) _ _ _)); (fail_if_success (with_reducible show wpAny _ _ (pyIter _) _ _ _)); (fail_if_success (with_reducible show wpAny _ _ (exec (Stmt.While _ _ _ _) _) _ _ _)); first | walk1 | (dsimp only; walk1))
  (refine' fnP_use (pool_ok _ _ _ _ _ _ _ ?hi ?p0 ?p1 ?p2) ?P ?B ?F ?X ?N ?T rfl ?d ?u ?_; (case N => assumption); (case B => assumption); (case F => assumption); (case X => assumption); (case T => assumption); (case P => assumption); (case hi => assumption); (case p0 => omega); (case p1 => first | with_reducible assumption | omega); (case p2 => first | with_reducible assumption | omega); (case d => first | exact dlt (by assumption) (by rfl) | omega); (case u => first | exact ult (by assumption) (by rfl) | omega); intro _ _ _ _ _ _ _ _ _ _ _ _ _ _)
  repeat' ((fail_if_success (with_reducible show wpAny _ _ (exec (Stmt.For _ _ _ _ _) _) _ _ _)); (fail_if_success (with_reducible show wpAny _ _ (pyIter _) _ _ _)); (fail_if_success (with_reducible show wpAny _ _ (exec (Stmt.While _ _ _ _) _) _ _ _)); first | walk1 | (dsimp only; walk1))
  rename_i p a b ta tb oo la lb lc ld h5 tk5 F5 N5
  have lp1 : L + 1 + 1 < p := ld _ (.head _)
  have lp2 : L + 1 < p := ld _ (.tail _ (.head _))
  have lp3 : I < p := ld _ (.tail _ (.tail _ (.head _)))
  clear ld
  refine stCN (own := [_, _]) F5 N5 rfl ho2 ?_ ?_ ?_
  · refine List.forall_mem_cons.mpr ⟨Nat.ne_of_gt lp2, List.forall_mem_cons.mpr ⟨Nat.succ_ne_self _, fun _ h => by cases h⟩⟩
  · exact List.forall_mem_cons.mpr ⟨Nat.ne_of_gt li2, fun _ h => by cases h⟩
  intro h6 o3 F6 N6 ho3
  change News g L h6 [(p, SrcO a b ta tb oo), (L + 1 + 1, o1), (L + 1, o3), (I, oI)] at N6
  repeat' ((fail_if_success (with_reducible show wpAny _ _ (exec (Stmt.For _ _ _ _ _) _) _ _ _)); (fail_if_success (with_reducible show wpAny _ _ (pyIter _) _ _ _)); (fail_if_success (with_reducible show wpAny _ _ (exec (Stmt.While _ _ _ _) _) _ _ _)); first | walk1 | (dsimp only; walk1))
  have hSp : ∀ q ∈ [(L + 1 + 1, o1), (L + 1, o3), (I, oI)], q.1 ≠ p := List.forall_mem_cons.mpr ⟨Nat.ne_of_lt lp1, List.forall_mem_cons.mpr ⟨Nat.ne_of_lt lp2, List.forall_mem_cons.mpr ⟨Nat.ne_of_lt lp3, fun _ h => by cases h⟩⟩⟩
  refine wpC_execs_consA ?_
  repeat' ((fail_if_success (with_reducible show wpAny _ _ (compareOp CmpOp.NotEq (Value.ref _) (Value.ref _)) _ _ _)); (fail_if_success (with_reducible show wpAny _ _ (eval (Expr.ListComp _ _ _ _) _) _ _ _)); (fail_if_success (with_reducible show LCg.CompSrc _ _ _ _ _ _ _ _ _ _ _ _ _ _)); (fail_if_success (with_reducible show LCg.FinE _ _ _ _ _ _ _)); (fail_if_success (with_reducible show LCg.CompEnd _ _ _ _ _ _ _ _ _ _ _ _ _ _)); (fail_if_success (with_reducible show wpAny _ _ (exec (Stmt.For _ _ _ _ _) _) _ _ _)); (fail_if_success (with_reducible show wpAny _ _ (pyIter _) _ _ _)); first | walk1 | (dsimp only; walk1))
  refine LCg.ListComp_U (F₀ := by assumption) (by with_unfolding_all rfl) (by decide) (by rfl) (by decide) (by rfl) ?_
  repeat' ((fail_if_success (with_reducible show wpAny _ _ (compareOp CmpOp.NotEq (Value.ref _) (Value.ref _)) _ _ _)); (fail_if_success (with_reducible show wpAny _ _ (eval (Expr.ListComp _ _ _ _) _) _ _ _)); (fail_if_success (with_reducible show LCg.CompSrc _ _ _ _ _ _ _ _ _ _ _ _ _ _)); (fail_if_success (with_reducible show LCg.FinE _ _ _ _ _ _ _)); (fail_if_success (with_reducible show LCg.CompEnd _ _ _ _ _ _ _ _ _ _ _ _ _ _)); (fail_if_success (with_reducible show wpAny _ _ (exec (Stmt.For _ _ _ _ _) _) _ _ _)); (fail_if_success (with_reducible show wpAny _ _ (pyIter _) _ _ _)); first | walk1 | (dsimp only; walk1))
  rename_i r1 t1 a1 b1 ta1 tb1 oo1 e1 e2 e3 e4 e5 h7 tk7 F7 N7 h8 tk8 t2 t3 t4 hr8 F8 N8 hk8
  refine LCg.CompSrc.range rfl F8 N8 hr8 (small_one (by omega) (by omega) (by omega) (by omega)) (rangeSize_nat _ _) (by rw [sizeLine_eq]; omega) ?_
  intro g8
  refine comp_st (fun i ys nw => ys.length = i ∧ (∀ v ∈ ys, ∃ n t, v = Value.int n t ∧ 0 ≤ n ∧ n < 256) ∧ ∃ a b ta tb oo, 0 ≤ a ∧ 0 ≤ b ∧ b < 2147483647 ∧ nw = [(p, SrcO a b ta tb oo), (L + 1 + 1, o1), (L + 1, o3), (I, oI)]) ⟨rfl, List.forall_mem_nil _, a1, b1, ta1, tb1, oo1, e3, e4, e5, rfl⟩ ?turn ?fin
  case turn =>
    rintro j v ys nw J oJ C oC D m₂ h9 tk9 E' hj ⟨tv, rfl⟩ ⟨hyl, hyv, a, b, ta, tb, oo, f1, f2, f3, rfl⟩ hC hx F9 N9 off
    have off' := off
    simp only [LCg.Off3, and_true] at off'
    obtain ⟨⟨q1, q2, q3⟩, ⟨q4, q5, q6⟩, ⟨q7, q8, q9⟩, q10, q11, q12⟩ := off'
    have hSp' : ∀ q ∈ [(J, oJ), (C, oC), (D, LCg.lst ys), (L + 1 + 1, o1), (L + 1, o3), (I, oI)], q.1 ≠ p := List.forall_mem_cons.mpr ⟨Ne.symm q1, List.forall_mem_cons.mpr ⟨Ne.symm q2, List.forall_mem_cons.mpr ⟨Ne.symm q3, hSp⟩⟩⟩
    have N10 : News g L h9 [(p, SrcO a b ta tb oo), (J, oJ), (C, oC), (D, LCg.lst ys), (L + 1 + 1, o1), (L + 1, o3), (I, oI)] := news_of N9 (by walk_at "sub")
    clear N9
    repeat' ((fail_if_success (with_reducible show wpAny _ _ (compareOp CmpOp.NotEq (Value.ref _) (Value.ref _)) _ _ _)); (fail_if_success (with_reducible show wpAny _ _ (eval (Expr.ListComp _ _ _ _) _) _ _ _)); (fail_if_success (with_reducible show LCg.CompSrc _ _ _ _ _ _ _ _ _ _ _ _ _ _)); (fail_if_success (with_reducible show LCg.FinE _ _ _ _ _ _ _)); (fail_if_success (with_reducible show LCg.CompEnd _ _ _ _ _ _ _ _ _ _ _ _ _ _)); (fail_if_success (with_reducible show wpAny _ _ (exec (Stmt.For _ _ _ _ _) _) _ _ _)); (fail_if_success (with_reducible show wpAny _ _ (pyIter _) _ _ _)); first | walk1 | (dsimp only; walk1))
    (refine one_use ?_; intro _ _ _ _ _ _ _ _ _ _ _ _ _ _ _)
    repeat' ((fail_if_success (with_reducible show wpAny _ _ (compareOp CmpOp.NotEq (Value.ref _) (Value.ref _)) _ _ _)); (fail_if_success (with_reducible show wpAny _ _ (eval (Expr.ListComp _ _ _ _) _) _ _ _)); (fail_if_success (with_reducible show LCg.CompSrc _ _ _ _ _ _ _ _ _ _ _ _ _ _)); (fail_if_success (with_reducible show LCg.FinE _ _ _ _ _ _ _)); (fail_if_success (with_reducible show LCg.CompEnd _ _ _ _ _ _ _ _ _ _ _ _ _ _)); (fail_if_success (with_reducible show wpAny _ _ (exec (Stmt.For _ _ _ _ _) _) _ _ _)); (fail_if_success (with_reducible show wpAny _ _ (pyIter _) _ _ _)); first | walk1 | (dsimp only; walk1))
    rename_i a2 b2 ta2 tb2 oo2 hv u1 u2 u3 h13 tk13 F13 N13
    have hm := List.mem_of_getElem? hv
    refine LCg.CompEnd.intro F13 N13 [(p, SrcO a2 b2 ta2 tb2 oo2), (L + 1 + 1, o1), (L + 1, o3), (I, oI)] ?_ off trivial ⟨by rw [List.length_append, hyl]; rfl, ?_, _, _, _, _, _, u1, u2, u3, rfl⟩
    · walk_at "sub"
    · intro v' hv'
      rcases List.mem_append.mp hv' with hv' | hv'
      · exact hyv v' hv'
      · rw [List.mem_singleton.mp hv']
        clear hv hv' N13 F13
        iterate 12 (rcases List.mem_cons.mp hm with e | hm; · exact ⟨_, _, e, by omega, by omega⟩)
        cases hm
  case fin =>
    rintro ys nw ⟨hyl, hyv, a, b, ta, tb, oo, f1, f2, f3, rfl⟩
    intro D h9 tk9 F9 N9 off
    repeat' ((fail_if_success (with_reducible show wpAny _ _ (compareOp CmpOp.NotEq (Value.ref _) (Value.ref _)) _ _ _)); (fail_if_success (with_reducible show wpAny _ _ (eval (Expr.ListComp _ _ _ _) _) _ _ _)); (fail_if_success (with_reducible show LCg.CompSrc _ _ _ _ _ _ _ _ _ _ _ _ _ _)); (fail_if_success (with_reducible show LCg.FinE _ _ _ _ _ _ _)); (fail_if_success (with_reducible show LCg.CompEnd _ _ _ _ _ _ _ _ _ _ _ _ _ _)); (fail_if_success (with_reducible show wpAny _ _ (exec (Stmt.For _ _ _ _ _) _) _ _ _)); (fail_if_success (with_reducible show wpAny _ _ (pyIter _) _ _ _)); first | walk1 | (dsimp only; walk1))
    obtain ⟨cs, hcs, hcb⟩ := bytes_ints hyv
    have hcl : cs.length ≤ 9 := by rw [← hcs.length]; omega
    refine' KBa.make_K (ns := cs) ?kF ?kN ?kh ?kl ?ki ?kb ?kz ?_
    case kF => exact F9
    case kN => exact N9
    case kh => rfl
    case kl => exact News.isList N9 (.head _)
    case ki => exact hcs
    case kb => exact hcb
    case kz => omega
    intro h10 t10 tk10 F10 N10 _
    clear F9 N9
    repeat' ((fail_if_success (with_reducible show wpAny _ _ (compareOp CmpOp.NotEq (Value.ref _) (Value.ref _)) _ _ _)); (fail_if_success (with_reducible show wpAny _ _ (eval (Expr.ListComp _ _ _ _) _) _ _ _)); (fail_if_success (with_reducible show LCg.CompSrc _ _ _ _ _ _ _ _ _ _ _ _ _ _)); (fail_if_success (with_reducible show LCg.FinE _ _ _ _ _ _ _)); (fail_if_success (with_reducible show LCg.CompEnd _ _ _ _ _ _ _ _ _ _ _ _ _ _)); (fail_if_success (with_reducible show wpAny _ _ (exec (Stmt.For _ _ _ _ _) _) _ _ _)); (fail_if_success (with_reducible show wpAny _ _ (pyIter _) _ _ _)); first | walk1 | (dsimp only; walk1))
    rename_i h11 F11 N11
    have N12 : News g L h11 [(p, SrcO a b ta tb oo), (L + 1 + 1, o1), (L + 1, o3), (I, oI)] := news_of N11 (fun z hz => .tail _ hz)
    clear N11
    have hbs : (byteArr cs).size ≤ 10 := by rw [byteArr_size]; omega
    clear hcb hcl hcs
    generalize byteArr cs = bb at *
    refine wpC_execs_consA ?_
    repeat' ((fail_if_success (with_reducible show wpAny _ _ (compareOp CmpOp.NotEq (Value.ref _) (Value.ref _)) _ _ _)); (fail_if_success (with_reducible show wpAny _ _ (eval (Expr.ListComp _ _ _ _) _) _ _ _)); (fail_if_success (with_reducible show LCg.CompSrc _ _ _ _ _ _ _ _ _ _ _ _ _ _)); (fail_if_success (with_reducible show LCg.FinE _ _ _ _ _ _ _)); (fail_if_success (with_reducible show LCg.CompEnd _ _ _ _ _ _ _ _ _ _ _ _ _ _)); (fail_if_success (with_reducible show wpAny _ _ (exec (Stmt.For _ _ _ _ _) _) _ _ _)); (fail_if_success (with_reducible show wpAny _ _ (pyIter _) _ _ _)); first | walk1 | (dsimp only; walk1))
    (refine' fn_useA (law_rune_ok _ _ _ _ _ _ _ _ ?hS ?p1 ?p2 ?p3) ?_; (case hS => assumption); (case p1 => first | with_reducible assumption | omega); (case p2 => first | with_reducible assumption | omega); (case p3 => first | with_reducible assumption | omega); intro _ _ _ _ _ _ _ _ _ _ _ _ _ _ _ _ _ _ _ _)
    repeat' ((fail_if_success (with_reducible show wpAny _ _ (compareOp CmpOp.NotEq (Value.ref _) (Value.ref _)) _ _ _)); (fail_if_success (with_reducible show wpAny _ _ (eval (Expr.ListComp _ _ _ _) _) _ _ _)); (fail_if_success (with_reducible show LCg.CompSrc _ _ _ _ _ _ _ _ _ _ _ _ _ _)); (fail_if_success (with_reducible show LCg.FinE _ _ _ _ _ _ _)); (fail_if_success (with_reducible show LCg.CompEnd _ _ _ _ _ _ _ _ _ _ _ _ _ _)); (fail_if_success (with_reducible show wpAny _ _ (exec (Stmt.For _ _ _ _ _) _) _ _ _)); (fail_if_success (with_reducible show wpAny _ _ (pyIter _) _ _ _)); first | walk1 | (dsimp only; walk1))
    rename_i pr r yr a3 b3 ta3 tb3 oo3 tr1 tr2 hr1 hr2 v1 v2 v3 lpr h12 tk12 F12 N13
    refine' fn_use (law_number _ _ _ _ _ _ _ _ ?hS v1 v2 v3) B F12 X (news_swap N13) T rfl (by first | exact dlt (by assumption) (by rfl) | omega) (by first | exact ult (by assumption) (by rfl) | omega) ?_
    case hS => exact List.forall_mem_cons.mpr ⟨Nat.ne_of_gt (lpr _ (.head _)), hSp⟩
    intro pn nn yn a4 b4 ta4 tb4 oo4 tn1 tn2 hn1 hn2 hn3 v4 v5 v6 lpn h13 tk13 F13 N14
    obtain rfl := runeT_eq hr2
    obtain rfl := numT_eq hn1 hn2 hn3
    have N15 : News g L h13 [(pn, tupO [.int nn tn1, .str (numS nn) tn2]), (pr, tupO [.int r tr1, .str (runS r) tr2]), (L + 1 + 1, o1), (L + 1, o3), (I, oI)] := news_of N14 (List.Sublist.subset (.cons_cons _ (.cons _ (.refl _))))
    have lnr : pr < pn := lpn _ (.tail _ (.head _))
    have lrI : I < pr := lpr _ (.tail _ (.tail _ (.tail _ (.head _))))
    have lr1 : L + 1 + 1 < pr := lpr _ (.tail _ (.head _))
    (try clear N14); (try clear N13); (try clear N12); clear lpn lpr hr2 hn3; (try clear hSp)
    repeat' ((fail_if_success (with_reducible show wpAny _ _ (compareOp CmpOp.NotEq (Value.ref _) (Value.ref _)) _ _ _)); (fail_if_success (with_reducible show wpAny _ _ (eval (Expr.ListComp _ _ _ _) _) _ _ _)); (fail_if_success (with_reducible show LCg.CompSrc _ _ _ _ _ _ _ _ _ _ _ _ _ _)); (fail_if_success (with_reducible show LCg.FinE _ _ _ _ _ _ _)); (fail_if_success (with_reducible show LCg.CompEnd _ _ _ _ _ _ _ _ _ _ _ _ _ _)); (fail_if_success (with_reducible show wpAny _ _ (exec (Stmt.For _ _ _ _ _) _) _ _ _)); (fail_if_success (with_reducible show wpAny _ _ (pyIter _) _ _ _)); first | walk1 | (dsimp only; walk1))
    refine wpC_execs_consA ?_
    repeat' ((fail_if_success (with_reducible show wpAny _ _ (compareOp CmpOp.NotEq (Value.ref _) (Value.ref _)) _ _ _)); (fail_if_success (with_reducible show wpAny _ _ (eval (Expr.ListComp _ _ _ _) _) _ _ _)); (fail_if_success (with_reducible show LCg.CompSrc _ _ _ _ _ _ _ _ _ _ _ _ _ _)); (fail_if_success (with_reducible show LCg.FinE _ _ _ _ _ _ _)); (fail_if_success (with_reducible show LCg.CompEnd _ _ _ _ _ _ _ _ _ _ _ _ _ _)); (fail_if_success (with_reducible show wpAny _ _ (exec (Stmt.For _ _ _ _ _) _) _ _ _)); (fail_if_success (with_reducible show wpAny _ _ (pyIter _) _ _ _)); first | walk1 | (dsimp only; walk1))
    (refine fn_useA (run_ok _ _ _ _ (by with_reducible assumption)) ?_; intro _ _ _ _ _)
    repeat' ((fail_if_success (with_reducible show wpAny _ _ (compareOp CmpOp.NotEq (Value.ref _) (Value.ref _)) _ _ _)); (fail_if_success (with_reducible show wpAny _ _ (eval (Expr.ListComp _ _ _ _) _) _ _ _)); (fail_if_success (with_reducible show LCg.CompSrc _ _ _ _ _ _ _ _ _ _ _ _ _ _)); (fail_if_success (with_reducible show LCg.FinE _ _ _ _ _ _ _)); (fail_if_success (with_reducible show LCg.CompEnd _ _ _ _ _ _ _ _ _ _ _ _ _ _)); (fail_if_success (with_reducible show wpAny _ _ (exec (Stmt.For _ _ _ _ _) _) _ _ _)); (fail_if_success (with_reducible show wpAny _ _ (pyIter _) _ _ _)); first | walk1 | (dsimp only; walk1))
    rename_i D1 hA1 lA1 hA2 hA3 hA4 tq hA5 tkA1 tr hA6 tkA2 tn hA7 tkA3 TX hA8 lTX hA9 F15 N16
    have N17 : News g L hA9 [(TX, listOf #[.str (quoS bb) tq, .str (runS r) tr, .str (numS nn) tn] 0), (pn, tupO [.int nn tn1, .str (numS nn) tn2]), (pr, tupO [.int r tr1, .str (runS r) tr2]), (L + 1 + 1, o1), (L + 1, o3), (I, oI)] := news_of N16 (List.Sublist.subset (.cons_cons _ (.cons _ (.refl _))))
    have lTn : pn < TX := lTX.2.1
    have lTr : pr < TX := lTX.2.2.1
    have lTI : I < TX := lTX.2.2.2.2.2
    have lT1 : L + 1 + 1 < TX := lTX.2.2.2.1
    have lT2 : L + 1 < TX := lTX.2.2.2.2.1
    clear N16 lTX
    obtain ⟨jl1, jl2⟩ := quo_sum bb hbs
    have jl3 : (octsOf bb).length ≤ 10 := by rw [octsOf, List.length_map, Array.length_toList]; exact hbs
    refine wpC_execs_consA ?_
    repeat' ((fail_if_success (with_reducible show wpAny _ _ (compareOp CmpOp.NotEq (Value.ref _) (Value.ref _)) _ _ _)); (fail_if_success (with_reducible show wpAny _ _ (eval (Expr.ListComp _ _ _ _) _) _ _ _)); (fail_if_success (with_reducible show LCg.CompSrc _ _ _ _ _ _ _ _ _ _ _ _ _ _)); (fail_if_success (with_reducible show LCg.FinE _ _ _ _ _ _ _)); (fail_if_success (with_reducible show LCg.CompEnd _ _ _ _ _ _ _ _ _ _ _ _ _ _)); (fail_if_success (with_reducible show wpAny _ _ (exec (Stmt.For _ _ _ _ _) _) _ _ _)); (fail_if_success (with_reducible show wpAny _ _ (pyIter _) _ _ _)); first | walk1 | (dsimp only; walk1))
    refine ListComp_B (F₀ := by assumption) (by with_unfolding_all rfl) (by decide) (by rfl) (by decide) (by rfl) ?_
    walk1
    refine ⟨bb, t10, _, rfl, rfl, by assumption, N17, by rw [sizeLine_eq]; omega, ?_⟩
    rintro _ ⟨hB, rfl⟩
    refine comp_st (fun i ys nw => ys.map strOf = (((octsOf bb).map octS).take i).map some ∧ nw = [(TX, listOf #[.str (quoS bb) tq, .str (runS r) tr, .str (numS nn) tn] 0), (pn, tupO [.int nn tn1, .str (numS nn) tn2]), (pr, tupO [.int r tr1, .str (runS r) tr2]), (L + 1 + 1, o1), (L + 1, o3), (I, oI)]) ⟨rfl, rfl⟩ ?turn2 ?fin2
    case turn2 =>
      rintro j v ys nw J oJ C oC D m₂ h16 tk16 E' hj ⟨c, tc, hc, rfl⟩ ⟨hys, rfl⟩ hC hx F16 N18 off2
      have hc0 : (0 : Int) ≤ c.toNat := by omega
      have hc1 : (c.toNat : Int) < 256 := by have := c.toNat_lt; omega
      repeat' ((fail_if_success (with_reducible show wpAny _ _ (compareOp CmpOp.NotEq (Value.ref _) (Value.ref _)) _ _ _)); (fail_if_success (with_reducible show wpAny _ _ (eval (Expr.ListComp _ _ _ _) _) _ _ _)); (fail_if_success (with_reducible show LCg.CompSrc _ _ _ _ _ _ _ _ _ _ _ _ _ _)); (fail_if_success (with_reducible show LCg.FinE _ _ _ _ _ _ _)); (fail_if_success (with_reducible show LCg.CompEnd _ _ _ _ _ _ _ _ _ _ _ _ _ _)); (fail_if_success (with_reducible show wpAny _ _ (exec (Stmt.For _ _ _ _ _) _) _ _ _)); (fail_if_success (with_reducible show wpAny _ _ (pyIter _) _ _ _)); first | walk1 | (dsimp only; walk1))
      (refine wpAny_noE (fn_useA (oct_ok _ _ _ _ (by with_reducible assumption) (by with_reducible assumption)) ?_); intro _ _ _ _ _)
      repeat' ((fail_if_success (with_reducible show wpAny _ _ (compareOp CmpOp.NotEq (Value.ref _) (Value.ref _)) _ _ _)); (fail_if_success (with_reducible show wpAny _ _ (eval (Expr.ListComp _ _ _ _) _) _ _ _)); (fail_if_success (with_reducible show LCg.CompSrc _ _ _ _ _ _ _ _ _ _ _ _ _ _)); (fail_if_success (with_reducible show LCg.FinE _ _ _ _ _ _ _)); (fail_if_success (with_reducible show LCg.CompEnd _ _ _ _ _ _ _ _ _ _ _ _ _ _)); (fail_if_success (with_reducible show wpAny _ _ (exec (Stmt.For _ _ _ _ _) _) _ _ _)); (fail_if_success (with_reducible show wpAny _ _ (pyIter _) _ _ _)); first | walk1 | (dsimp only; walk1))
      rename_i tz hz tkz Fz Nz
      refine LCg.CompEnd.intro Fz Nz [_, _, _, _, _, _] (fun _ h => h) off2 trivial ⟨take_step hys ?_, rfl⟩
      rw [octsOf, List.map_map, List.getElem?_map, Array.getElem?_toList, hc]
      rfl
    case fin2 =>
      rintro ys nw ⟨hys, rfl⟩
      rw [List.take_of_length_le (by rw [octsOf, List.length_map, List.length_map, Array.length_toList]; exact Nat.le_refl _)] at hys
      have hst := strs_are hys
      intro D h16 tk16 F16 N18 off2
      repeat' ((fail_if_success (with_reducible show wpAny _ _ (compareOp CmpOp.NotEq (Value.ref _) (Value.ref _)) _ _ _)); (fail_if_success (with_reducible show wpAny _ _ (eval (Expr.ListComp _ _ _ _) _) _ _ _)); (fail_if_success (with_reducible show LCg.CompSrc _ _ _ _ _ _ _ _ _ _ _ _ _ _)); (fail_if_success (with_reducible show LCg.FinE _ _ _ _ _ _ _)); (fail_if_success (with_reducible show LCg.CompEnd _ _ _ _ _ _ _ _ _ _ _ _ _ _)); (fail_if_success (with_reducible show wpAny _ _ (exec (Stmt.For _ _ _ _ _) _) _ _ _)); (fail_if_success (with_reducible show wpAny _ _ (pyIter _) _ _ _)); first | walk1 | (dsimp only; walk1))
      have hui : un < cLine := by omega
      rename_i hJ lJ t19 TY hB19 h19 F19 N19 lTY
      refine ne_all (News.isList N19 (by k_mem)) (News.isList N19 (.head _)) (eqAll_cons (eqAt_str _ _ _) (eqAll_cons (eqAt_str _ _ _) (eqAll_cons (eqAt_str _ _ _) eqAll_nil))) (by show un < cLine; omega) ?_
      have N20 : News g L h19 [(TX, listOf #[.str (quoS bb) tq, .str (runS r) tr, .str (numS nn) tn] 0), (pn, tupO [.int nn tn1, .str (numS nn) tn2]), (pr, tupO [.int r tr1, .str (runS r) tr2]), (L + 1 + 1, o1), (L + 1, o3), (I, oI)] := news_of N19 (fun z hz => .tail _ (.tail _ hz))
      clear N19
      repeat' ((fail_if_success (with_reducible show wpAny _ _ (compareOp CmpOp.NotEq (Value.ref _) (Value.ref _)) _ _ _)); (fail_if_success (with_reducible show wpAny _ _ (eval (Expr.ListComp _ _ _ _) _) _ _ _)); (fail_if_success (with_reducible show LCg.CompSrc _ _ _ _ _ _ _ _ _ _ _ _ _ _)); (fail_if_success (with_reducible show LCg.FinE _ _ _ _ _ _ _)); (fail_if_success (with_reducible show LCg.CompEnd _ _ _ _ _ _ _ _ _ _ _ _ _ _)); (fail_if_success (with_reducible show wpAny _ _ (exec (Stmt.For _ _ _ _ _) _) _ _ _)); (fail_if_success (with_reducible show wpAny _ _ (pyIter _) _ _ _)); first | walk1 | (dsimp only; walk1))
      refine wpC_execs_consA ?_
      repeat' ((fail_if_success (with_reducible show wpAny _ _ (compareOp CmpOp.NotEq (Value.ref _) (Value.ref _)) _ _ _)); (fail_if_success (with_reducible show wpAny _ _ (eval (Expr.ListComp _ _ _ _) _) _ _ _)); (fail_if_success (with_reducible show LCg.CompSrc _ _ _ _ _ _ _ _ _ _ _ _ _ _)); (fail_if_success (with_reducible show LCg.FinE _ _ _ _ _ _ _)); (fail_if_success (with_reducible show LCg.CompEnd _ _ _ _ _ _ _ _ _ _ _ _ _ _)); (fail_if_success (with_reducible show wpAny _ _ (exec (Stmt.For _ _ _ _ _) _) _ _ _)); (fail_if_success (with_reducible show wpAny _ _ (pyIter _) _ _ _)); first | walk1 | (dsimp only; walk1))
      rename_i DU hC1 lDU D6 hC2 lD6 hC3 hC4 hC5 F21 N21
      have N22 : News g L hC5 [(DU, listOf #[] 0), (TX, listOf #[.str (quoS bb) tq, .str (runS r) tr, .str (numS nn) tn] 0), (pn, tupO [.int nn tn1, .str (numS nn) tn2]), (pr, tupO [.int r tr1, .str (runS r) tr2]), (L + 1 + 1, o1), (L + 1, o3), (I, oI)] := news_of N21 (fun z hz => .tail _ hz)
      clear N21
      refine wpC_execs_consA (For_turns F21 ?_)
      repeat' ((fail_if_success (with_reducible show wpAny _ _ (compareOp CmpOp.NotEq (Value.ref _) (Value.ref _)) _ _ _)); (fail_if_success (with_reducible show wpAny _ _ (eval (Expr.ListComp _ _ _ _) _) _ _ _)); (fail_if_success (with_reducible show LCg.CompSrc _ _ _ _ _ _ _ _ _ _ _ _ _ _)); (fail_if_success (with_reducible show LCg.FinE _ _ _ _ _ _ _)); (fail_if_success (with_reducible show LCg.CompEnd _ _ _ _ _ _ _ _ _ _ _ _ _ _)); (fail_if_success (with_reducible show wpAny _ _ (exec (Stmt.For _ _ _ _ _) _) _ _ _)); (fail_if_success (with_reducible show wpAny _ _ (pyIter _) _ _ _)); first | walk1 | (dsimp only; walk1))
      obtain ⟨hlq, hlr, hln, hlt, hlj⟩ := text_lens bb r nn hbs hr1 hn1 hn2
      rename_i F23 N23 lK
      refine' zip3_for ?ht ?hh F23 N23 ?m1 ?m2 ?m3 ?hy ?hu ((DU, listOf #[] 0) :: [(TX, listOf #[.str (quoS bb) tq, .str (runS r) tr, .str (numS nn) tn] 0), (pn, tupO [.int nn tn1, .str (numS nn) tn2]), (pr, tupO [.int r tr1, .str (runS r) tr2]), (L + 1 + 1, o1), (L + 1, o3), (I, oI)]) ?hn (J7 bb r nn [(TX, listOf #[.str (quoS bb) tq, .str (runS r) tr, .str (numS nn) tn] 0), (pn, tupO [.int nn tn1, .str (numS nn) tn2]), (pr, tupO [.int r tr1, .str (runS r) tr2]), (L + 1 + 1, o1), (L + 1, o3), (I, oI)] _) (J7_start rfl rfl) ?turn3 ?done3
      case ht => rfl
      case hh => rfl
      case m1 => exact .tail _ (.tail _ (.tail _ (.head _)))
      case m2 => exact .tail _ (.head _)
      case m3 => exact .head _
      case hy => rfl
      case hu => rfl
      case hn => exact fun z hz => .tail _ (.tail _ hz)
      case turn3 =>
        rintro i3 x y u T3 m₁ nw own h23 tk23 wr hx hy hu ⟨DUi, ds, c, tb, vt, vk, vv, rfl, rfl, hdl, hdr⟩ hoff hw F24 N24
        obtain ⟨hi3, tx, rfl⟩ := x3_of hx
        obtain ⟨ty, rfl⟩ := y3_of hy
        obtain ⟨tu, rfl⟩ := u3_of hu
        have hxl : (txt3 bb r nn i3).length ≤ 200 := by
          rcases i3 with _ | _ | _ | i3
          · show (quoS bb).length ≤ 200; omega
          · show (runS r).length ≤ 200; omega
          · show (numS nn).length ≤ 200; omega
          · omega
        simp only [List.cons_append, List.append_assoc, List.nil_append] at N24
        repeat' ((fail_if_success (with_reducible show wpAny _ _ (compareOp CmpOp.NotEq (Value.ref _) (Value.ref _)) _ _ _)); (fail_if_success (with_reducible show wpAny _ _ (eval (Expr.ListComp _ _ _ _) _) _ _ _)); (fail_if_success (with_reducible show LCg.CompSrc _ _ _ _ _ _ _ _ _ _ _ _ _ _)); (fail_if_success (with_reducible show LCg.FinE _ _ _ _ _ _ _)); (fail_if_success (with_reducible show LCg.CompEnd _ _ _ _ _ _ _ _ _ _ _ _ _ _)); (fail_if_success (with_reducible show wpAny _ _ (exec (Stmt.For _ _ _ _ _) _) _ _ _)); (fail_if_success (with_reducible show wpAny _ _ (pyIter _) _ _ _)); first | walk1 | (dsimp only; walk1))
        refine' J7_end (BS := [_, _, _, _, _, _]) ?kF ?kN hdr hdl ?k1 ?k2 hw hoff ?kl1 ?kl2
        case kF => assumption
        case kN => assumption
        case k1 => rw [rowsOf_even bb r nn i3 hi3]; exact ⟨_, _, _, _, rfl⟩
        case k2 => rw [rowsOf_odd bb r nn i3 hi3]; exact ⟨_, _, _, 0, rfl⟩
        case kl1 => exact And.right (And.right (by assumption))
        case kl2 => exact And.right (And.right (And.right (by assumption)))
      case done3 =>
        rintro m₁ nw h23 tk23 ⟨DUi, ds, c, tb, vt, vk, vv, rfl, rfl, hdl, hdr⟩ F24 N24
        change News g L h23 _ at N24
        change Fr g L h23 _ at F24
        have N26 : News g L h23 ((TX, listOf #[.str (quoS bb) tq, .str (runS r) tr, .str (numS nn) tn] 0) :: (DUi, listOf (refsOf ds).toArray c) :: (L + 1 + 1, o1) :: (L + 1, o3) :: (I, oI) :: ds) := news_of N24 (by
          walk_at "sub")
        clear N24
        have hst3 : StrsAre [.str (quoS bb) tq, .str (runS r) tr, .str (numS nn) tn] [quoS bb, runS r, numS nn] := .cons _ _ (.cons _ _ (.cons _ _ .nil))
        have hw3 : ([quoS bb, runS r, numS nn].map (·.length)).sum + [quoS bb, runS r, numS nn].length ≤ 1048576 := by simp only [List.map_cons, List.map_nil, List.sum_cons, List.sum_nil, List.length_cons, List.length_nil]; omega
        refine wpC_execs_cons (wpC_Assign_Name (wpC_Call ?_ rfl) rfl)
        repeat' ((fail_if_success (with_reducible show wpAny _ _ (compareOp CmpOp.NotEq (Value.ref _) (Value.ref _)) _ _ _)); (fail_if_success (with_reducible show wpAny _ _ (eval (Expr.ListComp _ _ _ _) _) _ _ _)); (fail_if_success (with_reducible show LCg.CompSrc _ _ _ _ _ _ _ _ _ _ _ _ _ _)); (fail_if_success (with_reducible show LCg.FinE _ _ _ _ _ _ _)); (fail_if_success (with_reducible show LCg.CompEnd _ _ _ _ _ _ _ _ _ _ _ _ _ _)); (fail_if_success (with_reducible show wpAny _ _ (exec (Stmt.For _ _ _ _ _) _) _ _ _)); (fail_if_success (with_reducible show wpAny _ _ (pyIter _) _ _ _)); first | walk1 | (dsimp only; walk1))
        refine callWithC_K X (by k_is) (wpC_of ?_) rfl rfl
        repeat' ((fail_if_success (with_reducible show wpAny _ _ (compareOp CmpOp.NotEq (Value.ref _) (Value.ref _)) _ _ _)); (fail_if_success (with_reducible show wpAny _ _ (eval (Expr.ListComp _ _ _ _) _) _ _ _)); (fail_if_success (with_reducible show LCg.CompSrc _ _ _ _ _ _ _ _ _ _ _ _ _ _)); (fail_if_success (with_reducible show LCg.FinE _ _ _ _ _ _ _)); (fail_if_success (with_reducible show LCg.CompEnd _ _ _ _ _ _ _ _ _ _ _ _ _ _)); (fail_if_success (with_reducible show wpAny _ _ (exec (Stmt.For _ _ _ _ _) _) _ _ _)); (fail_if_success (with_reducible show wpAny _ _ (pyIter _) _ _ _)); first | walk1 | (dsimp only; walk1))
        refine fnC_use (words_ok w _ bb r nn _ hbs hr1 hn1 hn2) B (by assumption) X (by assumption) T rfl (by first | exact dlt (by assumption) (by rfl) | omega) (by first | exact ult (by assumption) (by rfl) | omega) ?_
        intro RL yw dx rs c2 w1 w2 w3 w4 wu m1 m2 m3 hrl hrr hrn h25 tk25 F25 N25
        have hrows : ∀ p : Addr × Obj, (∃ j, RowIs (rowsOf bb r nn j) p.2) → ∀ v, p.2.data ≠ .cell v := by
          rintro p ⟨j, a1, a2, a3, a4, ea⟩ v e
          rw [ea] at e; cases e
        have mem_of : ∀ {l : Ledger} {p : Addr × Obj}, p ∈ l → ∃ j : Nat, l[j]? = some p := fun h => List.mem_iff_getElem?.mp h
        have hcell : (L + 1 + 1, o1) ∈ (RL, listOf (refsOf rs).toArray c2) :: (yw, instObj 282 dx) :: (dx, dictOf (wdE w RL 0 w1 w2 w3 w4 wu) 4) :: (rs ++ ((TX, listOf #[.str (quoS bb) tq, .str (runS r) tr, .str (numS nn) tn] 0) :: (DUi, listOf (refsOf ds).toArray c) :: (L + 1 + 1, o1) :: (L + 1, o3) :: (I, oI) :: ds)) :=
          .tail _ (.tail _ (.tail _ (List.mem_append_right _ (.tail _ (.tail _ (.head _))))))
        have sub : ∀ p ∈ (RL, listOf (refsOf rs).toArray c2) :: (yw, instObj 282 dx) :: (dx, dictOf (wdE w RL 0 w1 w2 w3 w4 wu) 4) :: (DUi, listOf (refsOf ds).toArray c) :: (rs ++ ds), p ∈ (RL, listOf (refsOf rs).toArray c2) :: (yw, instObj 282 dx) :: (dx, dictOf (wdE w RL 0 w1 w2 w3 w4 wu) 4) :: (rs ++ ((TX, listOf #[.str (quoS bb) tq, .str (runS r) tr, .str (numS nn) tn] 0) :: (DUi, listOf (refsOf ds).toArray c) :: (L + 1 + 1, o1) :: (L + 1, o3) :: (I, oI) :: ds)) := by
          walk_at "sub"
        refine stCN (own := (RL, listOf (refsOf rs).toArray c2) :: (yw, instObj 282 dx) :: (dx, dictOf (wdE w RL 0 w1 w2 w3 w4 wu) 4) :: (DUi, listOf (refsOf ds).toArray c) :: (rs ++ ds)) (rest := [(L + 1, o3), (I, oI)]) F25 (news_of N25 ?_) rfl ho1 ?_ ?_ ?_
        · walk_at "sub"
        · intro z hz
          refine ne_cell N25 (sub z hz) hcell ho1 ?_
          rcases List.mem_cons.mp hz with rfl | hz
          · intro v e; cases e
          · rcases List.mem_cons.mp hz with rfl | hz
            · intro v e; cases e
            · rcases List.mem_cons.mp hz with rfl | hz
              · intro v e; cases e
              · rcases List.mem_cons.mp hz with rfl | hz
                · intro v e; cases e
                · rcases List.mem_append.mp hz with hz | hz
                  · obtain ⟨j, hj⟩ := mem_of hz
                    exact hrows z ⟨j, hrr j z hj⟩
                  · obtain ⟨j, hj⟩ := mem_of hz
                    exact hrows z ⟨j, hdr j z hj⟩
        · exact List.forall_mem_cons.mpr ⟨Nat.ne_of_lt (Nat.lt_succ_self _), List.forall_mem_cons.mpr ⟨Nat.ne_of_gt li1, fun _ h => by cases h⟩⟩
        intro h26 o4 F26 N26 ho4
        have N27 : News g L h26 ((RL, listOf (refsOf rs).toArray c2) :: (yw, instObj 282 dx) :: (dx, dictOf (wdE w RL 0 w1 w2 w3 w4 wu) 4) :: (DUi, listOf (refsOf ds).toArray c) :: (L + 1 + 1, o4) :: (L + 1, o3) :: (I, oI) :: (rs ++ ds)) := news_of N26 (by
          walk_at "sub")
        clear N25 N26 hcell sub
        refine wpC_of ?_
        repeat' ((fail_if_success (with_reducible show wpAny _ _ (compareOp CmpOp.NotEq (Value.ref _) (Value.ref _)) _ _ _)); (fail_if_success (with_reducible show wpAny _ _ (eval (Expr.ListComp _ _ _ _) _) _ _ _)); (fail_if_success (with_reducible show LCg.CompSrc _ _ _ _ _ _ _ _ _ _ _ _ _ _)); (fail_if_success (with_reducible show LCg.FinE _ _ _ _ _ _ _)); (fail_if_success (with_reducible show LCg.CompEnd _ _ _ _ _ _ _ _ _ _ _ _ _ _)); (fail_if_success (with_reducible show wpAny _ _ (exec (Stmt.For _ _ _ _ _) _) _ _ _)); (fail_if_success (with_reducible show wpAny _ _ (pyIter _) _ _ _)); first | walk1 | (dsimp only; walk1))
        refine LCg.ListComp_U (F₀ := by assumption) (by with_unfolding_all rfl) (by decide) (by rfl) (by decide) (by rfl) ?_
        repeat' ((fail_if_success (with_reducible show wpAny _ _ (compareOp CmpOp.NotEq (Value.ref _) (Value.ref _)) _ _ _)); (fail_if_success (with_reducible show wpAny _ _ (eval (Expr.ListComp _ _ _ _) _) _ _ _)); (fail_if_success (with_reducible show LCg.CompSrc _ _ _ _ _ _ _ _ _ _ _ _ _ _)); (fail_if_success (with_reducible show LCg.FinE _ _ _ _ _ _ _)); (fail_if_success (with_reducible show LCg.CompEnd _ _ _ _ _ _ _ _ _ _ _ _ _ _)); (fail_if_success (with_reducible show wpAny _ _ (exec (Stmt.For _ _ _ _ _) _) _ _ _)); (fail_if_success (with_reducible show wpAny _ _ (pyIter _) _ _ _)); first | walk1 | (dsimp only; walk1))
        rename_i h27 tk27 y2 y3 y4 hr27 F27 N28 hk27
        have hyx : yw ≠ dx := Nat.ne_of_gt m2
        have hRx : RL ≠ dx := Nat.ne_of_gt (Nat.lt_trans m2 m3)
        have hz20 : (refsOf rs).length ≤ 20 := by rw [List.length_map, hrl]; decide
        have hdxn : ∀ q ∈ rs ++ ds, q.1 ≠ dx := fun q hq => by
          rcases List.mem_append.mp hq with hq | hq
          · exact Nat.ne_of_lt (m1 q (List.mem_append_left _ hq))
          · exact Nat.ne_of_lt (m1 q (List.mem_append_right _ (.tail _ (.tail _ (.tail _ (.tail _ (.tail _ hq)))))))
        have hdx4 : ∀ q ∈ [(DUi, listOf (refsOf ds).toArray c), (L + 1 + 1, o4), (L + 1, o3), (I, oI)], q.1 ≠ dx := by
          have k1 : DUi < dx := m1 (DUi, _) (List.mem_append_right _ (.tail _ (.head _)))
          have k2 : L + 1 + 1 < dx := m1 (L + 1 + 1, _) (List.mem_append_right _ (.tail _ (.tail _ (.head _))))
          have k3 : L + 1 < dx := m1 (L + 1, _) (List.mem_append_right _ (.tail _ (.tail _ (.tail _ (.head _)))))
          have k4 : I < dx := m1 (I, _) (List.mem_append_right _ (.tail _ (.tail _ (.tail _ (.tail _ (.head _))))))
          exact List.forall_mem_cons.mpr ⟨Nat.ne_of_lt k1, List.forall_mem_cons.mpr ⟨Nat.ne_of_lt k2, List.forall_mem_cons.mpr ⟨Nat.ne_of_lt k3, List.forall_mem_cons.mpr ⟨Nat.ne_of_lt k4, fun _ h => by cases h⟩⟩⟩⟩
        refine LCg.CompSrc.range rfl F27 N28 hr27 (small_one (by omega) (by omega) (by omega) (by omega)) (rangeSize_nat _ _) (by rw [sizeLine_eq]; omega) ?_
        intro g27
        refine comp_st (fun i ys nw => ys = (refsOf rs).take i ∧ ∃ u5, nw = (RL, listOf (refsOf rs).toArray c2) :: (yw, instObj 282 dx) :: (dx, dictOf (wdE w RL (i : Nat) w1 w2 w3 w4 u5) 4) :: (DUi, listOf (refsOf ds).toArray c) :: (L + 1 + 1, o4) :: (L + 1, o3) :: (I, oI) :: (rs ++ ds)) ⟨rfl, wu, rfl⟩ ?turn5 ?fin5
        case turn5 =>
          rintro j v ys nw J oJ C oC D m₂ h28 tk28 E' hj ⟨tv, rfl⟩ ⟨rfl, u5, rfl⟩ hC hx F29 N29 off5
          have hj6 : j < 6 := by omega
          obtain ⟨pj, hpj⟩ : ∃ pj, rs[j]? = some pj := ⟨_, List.getElem?_eq_getElem (by omega)⟩
          obtain ⟨a1, a2, a3, a4, ea⟩ := hrr j pj hpj
          have hvj : (refsOf rs)[((j : Nat) : Int).toNat]? = some (.ref pj.1) := by rw [Int.toNat_natCast, List.getElem?_map, hpj]; rfl
          have offm := off5.mem
          have N30 : News g L h28 ((RL, listOf (refsOf rs).toArray c2) :: (yw, instObj 282 dx) :: (dx, dictOf (wdE w RL (j : Nat) w1 w2 w3 w4 u5) 4) :: (J, oJ) :: (C, oC) :: (D, LCg.lst ((refsOf rs).take j)) :: (DUi, listOf (refsOf ds).toArray c) :: (L + 1 + 1, o4) :: (L + 1, o3) :: (I, oI) :: (rs ++ ds)) := news_of N29 (by
            walk_at "sub")
          clear N29
          have hnx : ∀ q ∈ (J, oJ) :: (C, oC) :: (D, LCg.lst ((refsOf rs).take j)) :: (DUi, listOf (refsOf ds).toArray c) :: (L + 1 + 1, o4) :: (L + 1, o3) :: (I, oI) :: (rs ++ ds), q.1 ≠ dx := by
            obtain ⟨q1, q2, q3⟩ := offm (dx, _) (.tail _ (.tail _ (.head _)))
            refine List.forall_mem_cons.mpr ⟨Ne.symm q1, List.forall_mem_cons.mpr ⟨Ne.symm q2, List.forall_mem_cons.mpr ⟨Ne.symm q3, fun q hq => ?_⟩⟩⟩
            rcases List.mem_append.mp (show q ∈ [_, _, _, _] ++ (rs ++ ds) from hq) with hq | hq
            · exact hdx4 q hq
            · exact hdxn q hq
          have hmem : (pj.1, tupO [.str (rowsOf bb r nn j).kind a1, .str (rowsOf bb r nn j).text a2, .int (rowsOf bb r nn j).pos a3, (rowsOf bb r nn j).val a4]) ∈ (J, oJ) :: (C, oC) :: (D, LCg.lst ((refsOf rs).take j)) :: (DUi, listOf (refsOf ds).toArray c) :: (L + 1 + 1, o4) :: (L + 1, o3) :: (I, oI) :: (rs ++ ds) := by
            rw [← ea]
            exact .tail _ (.tail _ (.tail _ (.tail _ (.tail _ (.tail _ (.tail _ (List.mem_append_left _ (List.mem_of_getElem? hpj))))))))
          have htake := words_take w _ yw dx RL (refsOf rs) c2 (j : Nat) pj.1 _ _ _ _ _ w1 w2 w3 w4 u5 hz20 (by omega) hvj hyx hRx hnx hmem (rows_kind bb r nn j (by omega))
          unfold wdE at htake N30
          repeat' ((fail_if_success (with_reducible show wpAny _ _ (compareOp CmpOp.NotEq (Value.ref _) (Value.ref _)) _ _ _)); (fail_if_success (with_reducible show wpAny _ _ (eval (Expr.ListComp _ _ _ _) _) _ _ _)); (fail_if_success (with_reducible show LCg.CompSrc _ _ _ _ _ _ _ _ _ _ _ _ _ _)); (fail_if_success (with_reducible show LCg.FinE _ _ _ _ _ _ _)); (fail_if_success (with_reducible show LCg.CompEnd _ _ _ _ _ _ _ _ _ _ _ _ _ _)); (fail_if_success (with_reducible show wpAny _ _ (exec (Stmt.For _ _ _ _ _) _) _ _ _)); (fail_if_success (with_reducible show wpAny _ _ (pyIter _) _ _ _)); first | walk1 | (dsimp only; walk1))
          rename_i u6 h29 tk29 F30 N31
          have e1j : ((j + 1 : Nat) : Int) = (j : Nat) + 1 := by omega
          have N32 : News g L h29 ((RL, listOf (refsOf rs).toArray c2) :: (yw, instObj 282 dx) :: (dx, dictOf (wdE w RL ((j + 1 : Nat) : Int) w1 w2 w3 w4 u6) 4) :: (J, oJ) :: (C, oC) :: (D, LCg.lst ((refsOf rs).take j)) :: (DUi, listOf (refsOf ds).toArray c) :: (L + 1 + 1, o4) :: (L + 1, o3) :: (I, oI) :: (rs ++ ds)) := by
            rw [e1j]; exact N31
          have htk : (refsOf rs).take (j + 1) = (refsOf rs).take j ++ [Value.ref pj.1] := by
            rw [List.take_add_one, List.getElem?_map, hpj]; rfl
          refine LCg.CompEnd.intro F30 N32 ((RL, listOf (refsOf rs).toArray c2) :: (yw, instObj 282 dx) :: (dx, dictOf (wdE w RL ((j + 1 : Nat) : Int) w1 w2 w3 w4 u6) 4) :: (DUi, listOf (refsOf ds).toArray c) :: (L + 1 + 1, o4) :: (L + 1, o3) :: (I, oI) :: (rs ++ ds)) ?_ off5 trivial ⟨htk.symm, u6, rfl⟩
          walk_at "sub"
        case fin5 =>
          rintro ys nw ⟨rfl, u5, rfl⟩
          intro D h28 tk28 F29 N29 off5
          repeat' ((fail_if_success (with_reducible show wpAny _ _ (compareOp CmpOp.NotEq (Value.ref _) (Value.ref _)) _ _ _)); (fail_if_success (with_reducible show wpAny _ _ (eval (Expr.ListComp _ _ _ _) _) _ _ _)); (fail_if_success (with_reducible show LCg.CompSrc _ _ _ _ _ _ _ _ _ _ _ _ _ _)); (fail_if_success (with_reducible show LCg.FinE _ _ _ _ _ _ _)); (fail_if_success (with_reducible show LCg.CompEnd _ _ _ _ _ _ _ _ _ _ _ _ _ _)); (fail_if_success (with_reducible show wpAny _ _ (exec (Stmt.For _ _ _ _ _) _) _ _ _)); (fail_if_success (with_reducible show wpAny _ _ (pyIter _) _ _ _)); first | walk1 | (dsimp only; walk1))
          have hds : ds.length = 6 := hdl
          have hneq : ∀ x ∈ rs.take 6, ∀ q ∈ ds, q.1 < x.1 := fun x hx q hq => hrn x (List.mem_of_mem_take hx) q (.tail _ (.tail _ (.tail _ (.tail _ (.tail _ hq)))))
          change News g L h28 ((D, LCg.lst ((refsOf rs).take 6)) :: (RL, listOf (refsOf rs).toArray c2) :: (yw, instObj 282 dx) :: (dx, dictOf (wdE w RL 6 w1 w2 w3 w4 u5) 4) :: (DUi, listOf (refsOf ds).toArray c) :: (L + 1 + 1, o4) :: (L + 1, o3) :: (I, oI) :: (rs ++ ds)) at N29
          refine ne_all (xs := (refsOf rs).take 6) (ys := refsOf ds) (News.isList N29 (.head _)) (News.isList N29 (by k_mem)) ?_ (by show un < cLine; omega) ?_
          · rw [show (refsOf rs).take 6 = refsOf (rs.take 6) from List.map_take.symm]
            refine rows_eq (rows := rowsOf bb r nn) N29 (by show un + 1 + 1 < cLine; omega) (vals_eq bb r nn) (rs.take 6) ds 0 (by rw [List.length_take, hrl, hds]; rfl) (fun p hp => ?_) (fun p hp => ?_) hneq (fun i p hp => ?_) (fun i p hp => ?_)
            · exact .tail _ (.tail _ (.tail _ (.tail _ (.tail _ (.tail _ (.tail _ (.tail _ (List.mem_append_left _ (List.mem_of_mem_take hp)))))))))
            · exact .tail _ (.tail _ (.tail _ (.tail _ (.tail _ (.tail _ (.tail _ (.tail _ (List.mem_append_right _ hp))))))))
            · rw [List.getElem?_take] at hp
              split at hp
              · rw [Nat.zero_add]; exact hrr i p hp
              · cases hp
            · rw [Nat.zero_add]; exact hdr i p hp
          have hDx : D ≠ dx := Ne.symm off5.2.2.1
          clear hneq off5
          obtain ⟨p6, hp6⟩ : ∃ p, rs[6]? = some p := ⟨_, List.getElem?_eq_getElem (by omega)⟩
          obtain ⟨p7, hp7⟩ : ∃ p, rs[7]? = some p := ⟨_, List.getElem?_eq_getElem (by omega)⟩
          obtain ⟨g1, g2, g3, g4, e6⟩ := hrr 6 p6 hp6
          obtain ⟨k1, k2, k3, k4, e7⟩ := hrr 7 p7 hp7
          have hv6 : (refsOf rs)[(6 : Int).toNat]? = some (.ref p6.1) := by
            show (refsOf rs)[6]? = _
            rw [List.getElem?_map, hp6]; rfl
          have hv7 : (refsOf rs)[((6 : Int) + 1).toNat]? = some (.ref p7.1) := by
            show (refsOf rs)[7]? = _
            rw [List.getElem?_map, hp7]; rfl
          have e6' : p6.2 = tupO [.str (Str.ofString "name") g1, .str (Str.ofString "a") g2, .int (beg3 bb r nn 3) g3, .none] := e6
          have e7' : p7.2 = tupO [.str (Str.ofString "sign") k1, .str (Str.ofString ";") k2, .int (textS bb r nn).length k3, .none] := e7
          have N31 : News g L h28 ((RL, listOf (refsOf rs).toArray c2) :: (yw, instObj 282 dx) :: (dx, dictOf (wdE w RL 6 w1 w2 w3 w4 u5) 4) :: (D, LCg.lst ((refsOf rs).take 6)) :: (DUi, listOf (refsOf ds).toArray c) :: (L + 1 + 1, o4) :: (L + 1, o3) :: (I, oI) :: (rs ++ ds)) := news_of N29 (by
            walk_at "sub")
          clear N29
          have hnx6 : ∀ q ∈ (D, LCg.lst ((refsOf rs).take 6)) :: (DUi, listOf (refsOf ds).toArray c) :: (L + 1 + 1, o4) :: (L + 1, o3) :: (I, oI) :: (rs ++ ds), q.1 ≠ dx := by
            refine List.forall_mem_cons.mpr ⟨hDx, fun q hq => ?_⟩
            rcases List.mem_append.mp (show q ∈ [_, _, _, _] ++ (rs ++ ds) from hq) with hq | hq
            · exact hdx4 q hq
            · exact hdxn q hq
          have hmem6 : (p6.1, tupO [.str (Str.ofString "name") g1, .str (Str.ofString "a") g2, .int (beg3 bb r nn 3) g3, .none]) ∈ (D, LCg.lst ((refsOf rs).take 6)) :: (DUi, listOf (refsOf ds).toArray c) :: (L + 1 + 1, o4) :: (L + 1, o3) :: (I, oI) :: (rs ++ ds) := by
            rw [← e6']
            exact .tail _ (.tail _ (.tail _ (.tail _ (.tail _ (List.mem_append_left _ (List.mem_of_getElem? hp6))))))
          have hname := words_name w _ yw dx RL (refsOf rs) c2 6 p6.1 _ _ _ _ _ _ w1 w2 w3 w4 u5 hz20 (by decide) hv6 hyx hRx hnx6 hmem6 (by show _ = _; decide)
          unfold wdE at hname N31
          repeat' ((fail_if_success (with_reducible show wpAny _ _ (compareOp CmpOp.NotEq (Value.ref _) (Value.ref _)) _ _ _)); (fail_if_success (with_reducible show wpAny _ _ (eval (Expr.ListComp _ _ _ _) _) _ _ _)); (fail_if_success (with_reducible show LCg.CompSrc _ _ _ _ _ _ _ _ _ _ _ _ _ _)); (fail_if_success (with_reducible show LCg.FinE _ _ _ _ _ _ _)); (fail_if_success (with_reducible show LCg.CompEnd _ _ _ _ _ _ _ _ _ _ _ _ _ _)); (fail_if_success (with_reducible show wpAny _ _ (exec (Stmt.For _ _ _ _ _) _) _ _ _)); (fail_if_success (with_reducible show wpAny _ _ (pyIter _) _ _ _)); first | walk1 | (dsimp only; walk1))
          (refine wpAny_noE (fn_useA (fn_on (by assumption)) ?_); intro _ _ _ _ _ _ _)
          repeat' ((fail_if_success (with_reducible show wpAny _ _ (compareOp CmpOp.NotEq (Value.ref _) (Value.ref _)) _ _ _)); (fail_if_success (with_reducible show wpAny _ _ (eval (Expr.ListComp _ _ _ _) _) _ _ _)); (fail_if_success (with_reducible show LCg.CompSrc _ _ _ _ _ _ _ _ _ _ _ _ _ _)); (fail_if_success (with_reducible show LCg.FinE _ _ _ _ _ _ _)); (fail_if_success (with_reducible show LCg.CompEnd _ _ _ _ _ _ _ _ _ _ _ _ _ _)); (fail_if_success (with_reducible show wpAny _ _ (exec (Stmt.For _ _ _ _ _) _) _ _ _)); (fail_if_success (with_reducible show wpAny _ _ (pyIter _) _ _ _)); first | walk1 | (dsimp only; walk1))
          rename_i u6 q8 lq8 h29 tk29 T8 h30 F30 N30 l30
          change News g L h30 ((T8, tupO [.str (Str.ofString "a") tk29, .int (beg3 bb r nn 3) tb]) :: (q8, tupO [.str (Str.ofString "a") g2, .int (beg3 bb r nn 3) g3]) :: (RL, listOf (refsOf rs).toArray c2) :: (yw, instObj 282 dx) :: (dx, dictOf (wdE w RL (6 + 1) w1 w2 w3 w4 u6) 4) :: (D, LCg.lst ((refsOf rs).take 6)) :: (DUi, listOf (refsOf ds).toArray c) :: (L + 1 + 1, o4) :: (L + 1, o3) :: (I, oI) :: (rs ++ ds)) at N30
          refine ne_tup (News.isTup N30 (.tail _ (.head _))) (News.isTup N30 (.head _)) (eqAll_cons (eqAt_str _ _ _) (eqAll_cons (eqAt_int _ _ _) eqAll_nil)) (by show un < cLine; omega) ?_
          have hq8 : q8 ≠ dx := by
            intro e
            have a1 := (N30 _ (.tail _ (.head _))).1
            have a2 := (N30 _ (.tail _ (.tail _ (.tail _ (.tail _ (.head _)))))).1
            rw [show (q8, tupO [.str (Str.ofString "a") g2, .int (beg3 bb r nn 3) g3]).1 = dx from e] at a1
            rw [a1] at a2
            have a3 := congrArg Obj.data (Option.some.inj a2)
            simp [tupO, dictOf] at a3
          have hT8 : T8 ≠ dx := Nat.ne_of_gt l30.2.2.2.1
          have N32 : News g L h30 ((RL, listOf (refsOf rs).toArray c2) :: (yw, instObj 282 dx) :: (dx, dictOf (wdE w RL (6 + 1) w1 w2 w3 w4 u6) 4) :: (T8, tupO [.str (Str.ofString "a") tk29, .int (beg3 bb r nn 3) tb]) :: (q8, tupO [.str (Str.ofString "a") g2, .int (beg3 bb r nn 3) g3]) :: (D, LCg.lst ((refsOf rs).take 6)) :: (DUi, listOf (refsOf ds).toArray c) :: (L + 1 + 1, o4) :: (L + 1, o3) :: (I, oI) :: (rs ++ ds)) := news_of N30 (by
            walk_at "sub")
          clear N30
          have hnx7 : ∀ q ∈ (T8, tupO [.str (Str.ofString "a") tk29, .int (beg3 bb r nn 3) tb]) :: (q8, tupO [.str (Str.ofString "a") g2, .int (beg3 bb r nn 3) g3]) :: (D, LCg.lst ((refsOf rs).take 6)) :: (DUi, listOf (refsOf ds).toArray c) :: (L + 1 + 1, o4) :: (L + 1, o3) :: (I, oI) :: (rs ++ ds), q.1 ≠ dx :=
            List.forall_mem_cons.mpr ⟨hT8, List.forall_mem_cons.mpr ⟨hq8, hnx6⟩⟩
          have hmem7 : (p7.1, tupO [.str (Str.ofString "sign") k1, .str (Str.ofString ";") k2, .int (textS bb r nn).length k3, .none]) ∈ (T8, tupO [.str (Str.ofString "a") tk29, .int (beg3 bb r nn 3) tb]) :: (q8, tupO [.str (Str.ofString "a") g2, .int (beg3 bb r nn 3) g3]) :: (D, LCg.lst ((refsOf rs).take 6)) :: (DUi, listOf (refsOf ds).toArray c) :: (L + 1 + 1, o4) :: (L + 1, o3) :: (I, oI) :: (rs ++ ds) := by
            rw [← e7']
            exact .tail _ (.tail _ (.tail _ (.tail _ (.tail _ (.tail _ (.tail _ (List.mem_append_left _ (List.mem_of_getElem? hp7))))))))
          have htake := words_take w _ yw dx RL (refsOf rs) c2 (6 + 1) p7.1 _ _ _ _ _ w1 w2 w3 w4 u6 hz20 (by decide) hv7 hyx hRx hnx7 hmem7 (by show _ = _; decide)
          have hss : Eqs (Str.ofString ";") (Str.ofString ";") true := by show _ = _; decide
          unfold wdE at htake N32
          clear hname hnx6 hmem6 lq8
          have hmem8 : (p7.1, tupO [.str (Str.ofString "sign") k1, .str (Str.ofString ";") k2, .int (textS bb r nn).length k3, .none]) ∈ rs ++ ds := by
            rw [← e7']
            exact List.mem_append_left _ (List.mem_of_getElem? hp7)
          repeat' ((fail_if_success (with_reducible show wpAny _ _ (compareOp CmpOp.NotEq (Value.ref _) (Value.ref _)) _ _ _)); (fail_if_success (with_reducible show wpAny _ _ (eval (Expr.ListComp _ _ _ _) _) _ _ _)); (fail_if_success (with_reducible show LCg.CompSrc _ _ _ _ _ _ _ _ _ _ _ _ _ _)); (fail_if_success (with_reducible show LCg.FinE _ _ _ _ _ _ _)); (fail_if_success (with_reducible show LCg.CompEnd _ _ _ _ _ _ _ _ _ _ _ _ _ _)); (fail_if_success (with_reducible show wpAny _ _ (exec (Stmt.For _ _ _ _ _) _) _ _ _)); (fail_if_success (with_reducible show wpAny _ _ (pyIter _) _ _ _)); first | walk1 | (dsimp only; walk1))
          k_dflt (refine item_tupleL (News.isTup (by assumption) (.tail _ (.tail _ (.tail _ (.tail _ (.tail _ (.tail _ (.tail _ (.tail _ (.tail _ (.tail _ hmem8))))))))))) (by decide) (by decide) rfl rfl ?_)
          repeat' ((fail_if_success (with_reducible show Exists _)); (fail_if_success (with_reducible show wpAny _ _ (compareOp CmpOp.NotEq (Value.ref _) (Value.ref _)) _ _ _)); (fail_if_success (with_reducible show wpAny _ _ (eval (Expr.ListComp _ _ _ _) _) _ _ _)); (fail_if_success (with_reducible show LCg.CompSrc _ _ _ _ _ _ _ _ _ _ _ _ _ _)); (fail_if_success (with_reducible show LCg.FinE _ _ _ _ _ _ _)); (fail_if_success (with_reducible show LCg.CompEnd _ _ _ _ _ _ _ _ _ _ _ _ _ _)); (fail_if_success (with_reducible show wpAny _ _ (exec (Stmt.For _ _ _ _ _) _) _ _ _)); (fail_if_success (with_reducible show wpAny _ _ (pyIter _) _ _ _)); first | walk1 | (dsimp only; walk1))
          refine' ⟨_, _, _, [(L + 1 + 1, o4), (L + 1, o3)], rfl, ?zF, ?zN, ?zJ, o4, o3, _, _, rfl, ho4, ho3⟩
          case zF => assumption
          case zN => exact news_of (by assumption) (by
            walk_at "sub")
          case zJ => rfl
end Ep_law_turn
theorem law_turn (w : World) (mean : ExcName → Option Value) (mg mb : Str → Option Value) (dp un : Nat) (s : Shared) (g : Heap) (L S I : Addr) (vs : List Value) (ns : List Int) (m : Map) (oI o1 o2 : Obj) (v1 v2 : Option Value) (i : Nat) (t : Tok) (h : Heap) (tk : Nat) (QQ : Flow → Shared → Prop) (name qual : Str) (scope : Scope) (body fb : List Stmt) (params : Arguments) (dV kV doc pm cdv ct oc : Value) (an od : Option Addr) (osl : Array (Option Value)) (ho : (Mine.fr.heap_1 w.params).lookup 333 = some ⟨oc, od, .func (fnOf name qual params body scope dV kV doc pm an cdv ct), osl⟩) (hf : forOf body = fb) (T : Top Mine.view LO mean mg mb g) (X : ∀ _ : 0 = 0, (Mine.fr.heap_1 w.params).In g) (B : ∀ _ : 0 = 0, Below callerA g [] g) (hS : ∀ _ : 0 = 0, g.IsList S vs.toArray) (hI : IntsAre vs ns) (hlen : vs.length ≤ 63) (hd : dp + 20 < recursionLimit) (hu : un + 8 * 20 < cLine) (hi3 : i < 3) (hm : m (Str.ofString "script") = some (.ref S)) (ho1 : o1.data = .cell v1) (ho2 : o2.data = .cell v2) (F3 : ∀ _ : 0 = 0, Fr g L h (fun y => if y = Str.ofString "k" then some (.int (0 + (i : Int)) t) else m y)) (N3 : ∀ _ : 0 = 0, News g L h [(I, oI), (L + 1 + 1, o1), (L + 1, o2)]) (hI3 : ∀ p ∈ [(L + 1 + 1, o1), (L + 1, o2)], p.1 < I) : wpC (model PRG w) (ktrTop dp un (some []) qual scope L 333 cdv (cellsFrom (L + 1) scope.names []) []) (execs fb (envX qual scope L 333 cdv (cellsFrom (L + 1) scope.names []))) (fun f s' => match f with
        | .next => ∃ h' tk' m' nw', s' = { s with heap := h', toks := tk' } ∧ Fr g L h' m' ∧ News g L h' ((I, oI) :: nw') ∧ (m' (Str.ofString "script") = some (.ref S) ∧ ∃ o1 o2 : Obj, ∃ v1 v2 : Option Value, nw' = [(L + 1 + 1, o1), (L + 1, o2)] ∧ o1.data = .cell v1 ∧ o2.data = .cell v2)
        | .ret v => QQ (.ret v) s'
        | _ => False) NoE { s with heap := h, toks := tk } :=
  (cex_all (ne := Ep_law_turn.ne) (P := fun d : World × (ExcName → Option Value) × (Str → Option Value) × (Str → Option Value) × Nat × Nat × Shared × Heap × Addr × Addr × Addr × (List Value) × (List Int) × Map × Obj × Obj × Obj × (Option Value) × (Option Value) × Nat × Tok × Heap × Nat × (Flow → Shared → Prop) => Ep_law_turn.P d.1 d.2.1 d.2.2.1 d.2.2.2.1 d.2.2.2.2.1 d.2.2.2.2.2.1 d.2.2.2.2.2.2.1 d.2.2.2.2.2.2.2.1 d.2.2.2.2.2.2.2.2.1 d.2.2.2.2.2.2.2.2.2.1 d.2.2.2.2.2.2.2.2.2.2.1 d.2.2.2.2.2.2.2.2.2.2.2.1 d.2.2.2.2.2.2.2.2.2.2.2.2.1 d.2.2.2.2.2.2.2.2.2.2.2.2.2.1 d.2.2.2.2.2.2.2.2.2.2.2.2.2.2.1 d.2.2.2.2.2.2.2.2.2.2.2.2.2.2.2.1 d.2.2.2.2.2.2.2.2.2.2.2.2.2.2.2.2.1 d.2.2.2.2.2.2.2.2.2.2.2.2.2.2.2.2.2.1 d.2.2.2.2.2.2.2.2.2.2.2.2.2.2.2.2.2.2.1 d.2.2.2.2.2.2.2.2.2.2.2.2.2.2.2.2.2.2.2.1 d.2.2.2.2.2.2.2.2.2.2.2.2.2.2.2.2.2.2.2.2.1 d.2.2.2.2.2.2.2.2.2.2.2.2.2.2.2.2.2.2.2.2.2.1 d.2.2.2.2.2.2.2.2.2.2.2.2.2.2.2.2.2.2.2.2.2.2.1 d.2.2.2.2.2.2.2.2.2.2.2.2.2.2.2.2.2.2.2.2.2.2.2) (fun name qual scope body fb params dV kV doc pm cdv ct oc an od osl ho hf T X B hS hI hlen hd hu hi3 hm ho1 ho2 F3 N3 hI3 => Ep_law_turn.main name qual scope body fb params dV kV doc pm cdv ct oc an od osl ho hf T X B hS hI hlen hd hu hi3 hm ho1 ho2 F3 N3 hI3) (w, mean, mg, mb, dp, un, s, g, L, S, I, vs, ns, m, oI, o1, o2, v1, v2, i, t, h, tk, QQ)) name qual scope body fb params dV kV doc pm cdv ct oc an od osl ho hf T X B hS hI hlen hd hu hi3 hm ho1 ho2 F3 N3 hI3
theorem law_ok (w : World) (mean : ExcName → Option Value) (mg mb : Str → Option Value) (s : Shared) (S : Addr) (vs : List Value) (ns : List Int) (Q : Value → Shared → Prop) (T : Top Mine.view LO mean mg mb s.heap) (X : (Mine.fr.heap_1 w.params).In s.heap) (hS : s.heap.IsList S vs.toArray) (hI : IntsAre vs ns) (hlen : vs.length ≤ 63)
    (hret : ∀ h' tk', (∀ b o, s.heap.get? b = some o → h'.get? b = some o) → Q (.bool true) { s with heap := h', toks := tk' }) : wpC (model PRG w) callerA (call (.ref 333) [.ref S]) Q NoE s := by
  refine' head_entry (binds := [(Str.ofString "script", .ref S)]) ?ho ?hcd ?hb ?hk ?hnd T X ?body ?c1 ?c2 ?c3
  (case ho => k_is)
  (case hcd => k_is)
  (case hb => rfl)
  (case hk => rfl)
  (case hnd => decide +kernel)
  (case c1 => rfl)
  (case c2 => rfl)
  (case c3 => rfl)
  intro L h₁ tk cells F N Y
  obtain ⟨oH, oS, rfl, hoH, hoS⟩ := CellsAre.two Y
  have B : Below callerA s.heap [] s.heap := below_caller s.heap
  clear Y
  generalize s.heap = g at *
  change oH.data = .cell none at hoH
  change oS.data = .cell none at hoS
  have F1 : Fr g L h₁ (fun y => if y = Str.ofString "script" then some (.ref S) else none) := F
  clear F
  have hd : 2 + claimMargin + 20 < recursionLimit := by decide
  have hu : 7 + 8 * 20 < cLine := by decide
  generalize 2 + claimMargin = dp at *
  generalize 7 = un at hu ⊢
  obtain ⟨y0, z0, b1, b2, b3, b4, b5⟩ := big_facts
  have b6 := quo_fact
  refine wpC_execs_cons (wpC_If ?_)
  repeat' ((fail_if_success (with_reducible show wpAny _ _ (exec (Stmt.For _ _ _ _ _) _) _ _ _)); (fail_if_success (with_reducible show wpAny _ _ (pyIter _) _ _ _)); (fail_if_success (with_reducible show wpAny _ _ (exec (Stmt.While _ _ _ _) _) _ _ _)); first | walk1 | (dsimp only; walk1))
  refine wpC_of (wpAny_execs_nil ?_)
  rename_i t1 h2 tk2 F2 N2
  clear b1 b2 b3 b4 b5 b6
  refine wpC_execs_cons (wpC_For ?_)
  repeat' ((fail_if_success (with_reducible show wpAny _ _ (exec (Stmt.For _ _ _ _ _) _) _ _ _)); (fail_if_success (with_reducible show wpAny _ _ (pyIter _) _ _ _)); (fail_if_success (with_reducible show wpAny _ _ (exec (Stmt.While _ _ _ _) _) _ _ _)); first | walk1 | (dsimp only; walk1))
  rename IsRange _ _ _ _ _ _ _ _ => hr
  generalize hB : (if (if (3 : Int) < ns.length then (3 : Int) else ns.length) > 1 then if (3 : Int) < ns.length then (3 : Int) else ns.length else 1) = BB at hr
  obtain ⟨n, rfl, hn3⟩ : ∃ n : Nat, BB = (n : Int) ∧ n ≤ 3 := ⟨BB.toNat, by subst hB; split <;> split <;> omega, by subst hB; split <;> split <;> omega⟩
  clear hB
  refine forC_range (J := fun m nw => m (Str.ofString "script") = some (.ref S) ∧ ∃ o1 o2 : Obj, ∃ v1 v2 : Option Value, nw = [(L + 1 + 1, o1), (L + 1, o2)] ∧ o1.data = .cell v1 ∧ o2.data = .cell v2) rfl hr (small_one (by omega) (by omega) (by omega) (by omega)) (rangeSize_nat _ _) rfl rfl (by assumption) (by assumption) ⟨rfl, oH, oS, _, _, rfl, hoH, hoS⟩ ?ha ?turn ?done
  case ha =>
    rintro m nw ⟨-, o1, o2, v1, v2, rfl, -, -⟩
    rfl
  case done =>
    intro m nw h tk hJ F3 N3
    refine wpC_of ?_
    change Fr g L h _ at F3
    repeat' ((fail_if_success (with_reducible show wpAny _ _ (exec (Stmt.For _ _ _ _ _) _) _ _ _)); (fail_if_success (with_reducible show wpAny _ _ (pyIter _) _ _ _)); (fail_if_success (with_reducible show wpAny _ _ (exec (Stmt.While _ _ _ _) _) _ _ _)); first | walk1 | (dsimp only; walk1))
    exact hret _ _ F3.keep
  case turn =>
    rintro I oI i t m nw h tk hi ⟨hm, o1, o2, v1, v2, rfl, ho1, ho2⟩ F3 N3 hI3
    rename IntsAre _ _ => hJ
    refine wpC_mono (law_turn w mean mg mb dp un s g L S I vs ns m oI o1 o2 _ _ i t h tk (fun _ _ => False) _ _ _ _ _ _ _ _ _ _ _ _ _ _ _ _ (by k_is) rfl T (fun _ => X) (fun _ => B) (fun _ => hS) hJ hlen hd hu (by omega) hm ho1 ho2 (fun _ => F3) (fun _ => N3) hI3) (fun f s' q => ?_) fun _ _ x => x
    cases f with
    | next => exact q
    | ret v => exact q.elim
    | brk => exact q.elim
    | cont => exact q.elim
end
noncomputable def addrs : List Nat := [2, 3, 15, 17, 18, 20, 21, 22, 24, 25, 27, 28, 29, 31, 32, 34, 35, 36, 38, 39, 41, 42, 43, 50, 51, 53, 54, 56, 57, 58, 59, 60, 61, 64, 71, 72, 73, 76, 83, 84, 85, 88, 89, 90, 91, 92, 94, 95, 97, 98, 99, 102, 103, 104, 105, 106, 107, 108, 109, 110, 112, 113, 115, 116, 117, 119, 120, 122, 123, 124, 126, 127, 129, 130, 131, 133, 134, 136, 137, 138, 140, 141, 143, 144, 145, 147, 148, 150, 151, 152, 154, 155, 157, 158, 159, 161, 162, 164, 165, 166, 168, 169, 171, 172, 173, 175, 176, 178, 179, 180, 182, 183, 185, 186, 187, 189, 190, 192, 193, 194, 196, 197, 199, 200, 201, 203, 204, 206, 207, 208, 210, 211, 213, 214, 215, 217, 218, 220, 221, 222, 224, 225, 227, 228, 236, 238, 239, 241, 242, 243, 244, 246, 247, 249, 250, 251, 253, 254, 256, 257, 258, 259, 261, 262, 264, 265, 266, 268, 269, 271, 272, 273, 275, 276, 278, 279, 280, 281, 282, 283, 284, 287, 289, 290, 292, 293, 294, 296, 297, 299, 300, 301, 303, 304, 306, 307, 308, 310, 311, 313, 314, 315, 317, 318, 320, 321, 322, 324, 325, 327, 328, 329, 332, 333]
theorem law_use : ∀ (w : World) (mean : ExcName → Option Value) (mg mb : Str → Option Value) (s : Shared) (S : Addr) (vs : List Value) (ns : List Int) (Q : Value → Shared → Prop), Top Mine.view LO mean mg mb s.heap → (Mine.fr.heap_1 w.params).In s.heap → s.heap.IsList S vs.toArray → IntsAre vs ns → vs.length ≤ 63 →
      (∀ h' tk', (∀ b o, s.heap.get? b = some o → h'.get? b = some o) → Q (.bool true) { s with heap := h', toks := tk' }) → wpC (model PRG w) callerA (call (.ref 333) [.ref S]) Q NoE s :=
  fun w mean mg mb s S vs ns Q T X hS hI hlen hret => law_ok w mean mg mb s S vs ns Q T X hS hI hlen hret
section
local macro_rules | `(tactic| k_head) => `(tactic| o_head (kHook Mine.fr.heap_1 Mine.addrs (fun _ => by kernel_rfl)))
theorem law_holds.tw10007947361888340627 : True := trivial
theorem law_holds.tw10021120373506033370 : True := trivial
theorem law_holds.tw10024239376800412576 : True := trivial
theorem law_holds.tw10028117763298573888 : True := trivial
theorem law_holds.tw10188763426450519768 : True := trivial
theorem law_holds.tw10242277825702978295 : True := trivial
theorem law_holds.tw10296202853966499060 : True := trivial
theorem law_holds.tw1035469204868569938 : True := trivial
theorem law_holds.tw10368410895845634921 : True := trivial
theorem law_holds.tw10442559174759676424 : True := trivial
theorem law_holds.tw10465528174321978529 : True := trivial
theorem law_holds.tw10486713781251687710 : True := trivial
theorem law_holds.tw10566571302883470556 : True := trivial
theorem law_holds.tw10609929442622069884 : True := trivial
theorem law_holds.tw10666784280354678857 : True := trivial
theorem law_holds.tw10741112397429706993 : True := trivial
theorem law_holds.tw10812634152524527747 : True := trivial
theorem law_holds.tw10876394233666535175 : True := trivial
theorem law_holds.tw10958410103948607464 : True := trivial
theorem law_holds.tw10968802771074238664 : True := trivial
theorem law_holds.tw11017292853192552079 : True := trivial
theorem law_holds.tw11097158420108258118 : True := trivial
theorem law_holds.tw11097350217990362986 : True := trivial
theorem law_holds.tw11098625913536864229 : True := trivial
theorem law_holds.tw11100686419730198450 : True := trivial
theorem law_holds.tw11126432536435168541 : True := trivial
theorem law_holds.tw11182679623053108816 : True := trivial
theorem law_holds.tw11223184984439025696 : True := trivial
theorem law_holds.tw11289095316329951393 : True := trivial
theorem law_holds.tw11310715605152030493 : True := trivial
theorem law_holds.tw11404014056486942332 : True := trivial
theorem law_holds.tw11426015686315989412 : True := trivial
theorem law_holds.tw11484002064277903863 : True := trivial
theorem law_holds.tw11609493526922420660 : True := trivial
theorem law_holds.tw11633083819707477107 : True := trivial
theorem law_holds.tw11677100312832694166 : True := trivial
theorem law_holds.tw11690447701083486646 : True := trivial
theorem law_holds.tw11764581739189218997 : True := trivial
theorem law_holds.tw11781800970755023335 : True := trivial
theorem law_holds.tw11803358882649189518 : True := trivial
theorem law_holds.tw11846676642670509255 : True := trivial
theorem law_holds.tw1186782194237197914 : True := trivial
theorem law_holds.tw11924911360389889469 : True := trivial
theorem law_holds.tw12115171985352901274 : True := trivial
theorem law_holds.tw12134408205421670959 : True := trivial
theorem law_holds.tw12139075566331608612 : True := trivial
theorem law_holds.tw12223724995276690173 : True := trivial
theorem law_holds.tw12303009252429188658 : True := trivial
theorem law_holds.tw123295346585929383 : True := trivial
theorem law_holds.tw12342728606916771844 : True := trivial
theorem law_holds.tw12419048959643632839 : True := trivial
theorem law_holds.tw12459966957829302596 : True := trivial
theorem law_holds.tw12476058986133298565 : True := trivial
theorem law_holds.tw12496508351571488999 : True := trivial
theorem law_holds.tw12732824653754844360 : True := trivial
theorem law_holds.tw12780804625047726367 : True := trivial
theorem law_holds.tw12831907817818079685 : True := trivial
theorem law_holds.tw12835091436910803158 : True := trivial
theorem law_holds.tw1285599515219305098 : True := trivial
theorem law_holds.tw12889673554181485818 : True := trivial
theorem law_holds.tw12977093529070104392 : True := trivial
theorem law_holds.tw13028658284911697911 : True := trivial
theorem law_holds.tw13220211186989608806 : True := trivial
theorem law_holds.tw13250372474279835810 : True := trivial
theorem law_holds.tw13301187468288870568 : True := trivial
theorem law_holds.tw13397297893571687751 : True := trivial
theorem law_holds.tw13402424001964919149 : True := trivial
theorem law_holds.tw1341266762083198811 : True := trivial
theorem law_holds.tw13431030151845061361 : True := trivial
theorem law_holds.tw13478230802861573701 : True := trivial
theorem law_holds.tw13536078969547264968 : True := trivial
theorem law_holds.tw13650905803964671038 : True := trivial
theorem law_holds.tw1372012742513953645 : True := trivial
theorem law_holds.tw13766487248619392586 : True := trivial
theorem law_holds.tw1377309892636839040 : True := trivial
theorem law_holds.tw13780023080261437657 : True := trivial
theorem law_holds.tw13800757232730249582 : True := trivial
theorem law_holds.tw1385162719727133579 : True := trivial
theorem law_holds.tw13956741780833797525 : True := trivial
theorem law_holds.tw13958071646730322851 : True := trivial
theorem law_holds.tw14051398506283589457 : True := trivial
theorem law_holds.tw14146702402619289631 : True := trivial
theorem law_holds.tw14160533322030094474 : True := trivial
theorem law_holds.tw14289194402921355359 : True := trivial
theorem law_holds.tw14326059299131336239 : True := trivial
theorem law_holds.tw14335913921861858828 : True := trivial
theorem law_holds.tw14377833709258309704 : True := trivial
theorem law_holds.tw14385925486924208373 : True := trivial
theorem law_holds.tw14391260490067600928 : True := trivial
theorem law_holds.tw14497384708736915567 : True := trivial
theorem law_holds.tw14498155544194170393 : True := trivial
theorem law_holds.tw14571795756577361901 : True := trivial
theorem law_holds.tw14596297492920191028 : True := trivial
theorem law_holds.tw14822640431511872941 : True := trivial
theorem law_holds.tw14883556706271630602 : True := trivial
theorem law_holds.tw14904137174637212347 : True := trivial
theorem law_holds.tw14925382992726071281 : True := trivial
theorem law_holds.tw14948155051196383426 : True := trivial
theorem law_holds.tw14983226153234331074 : True := trivial
theorem law_holds.tw14988988175077273356 : True := trivial
theorem law_holds.tw15014403891855920072 : True := trivial
theorem law_holds.tw15150646450996357022 : True := trivial
theorem law_holds.tw15162217921772873613 : True := trivial
theorem law_holds.tw15191720212996534143 : True := trivial
theorem law_holds.tw15274831704391544125 : True := trivial
theorem law_holds.tw15352839923633478061 : True := trivial
theorem law_holds.tw1540726516641521080 : True := trivial
theorem law_holds.tw15452448965706171373 : True := trivial
theorem law_holds.tw15527639110640922598 : True := trivial
theorem law_holds.tw15544829507116839252 : True := trivial
theorem law_holds.tw15607887362523206001 : True := trivial
theorem law_holds.tw15609566024721092083 : True := trivial
theorem law_holds.tw15617896438947887921 : True := trivial
theorem law_holds.tw15661869461025623997 : True := trivial
theorem law_holds.tw15694993059591697976 : True := trivial
theorem law_holds.tw15732109348078318572 : True := trivial
theorem law_holds.tw15829985883664642994 : True := trivial
theorem law_holds.tw15883345262158282383 : True := trivial
theorem law_holds.tw16009327648451700120 : True := trivial
theorem law_holds.tw16099233806120587224 : True := trivial
theorem law_holds.tw16106779387088534511 : True := trivial
theorem law_holds.tw1622690429015379626 : True := trivial
theorem law_holds.tw16406091861079842607 : True := trivial
theorem law_holds.tw16461882675039125421 : True := trivial
theorem law_holds.tw16470317323979864763 : True := trivial
theorem law_holds.tw16563099163409725306 : True := trivial
theorem law_holds.tw1670043908289496885 : True := trivial
theorem law_holds.tw16720094985154256693 : True := trivial
theorem law_holds.tw16760957895259694429 : True := trivial
theorem law_holds.tw16805829885119392726 : True := trivial
theorem law_holds.tw16836969012518115619 : True := trivial
theorem law_holds.tw16883458599210261866 : True := trivial
theorem law_holds.tw16893121556090616931 : True := trivial
theorem law_holds.tw16947615914383616782 : True := trivial
theorem law_holds.tw16978406815995349258 : True := trivial
theorem law_holds.tw17027635718292003107 : True := trivial
theorem law_holds.tw17180001009569633970 : True := trivial
theorem law_holds.tw17237755526102222789 : True := trivial
theorem law_holds.tw1724926542741425601 : True := trivial
theorem law_holds.tw17253691774821329096 : True := trivial
theorem law_holds.tw17255088995462705879 : True := trivial
theorem law_holds.tw17499823404086765753 : True := trivial
theorem law_holds.tw1762888911704233025 : True := trivial
theorem law_holds.tw17899081815984039989 : True := trivial
theorem law_holds.tw17942709131360195518 : True := trivial
theorem law_holds.tw179590077315354965 : True := trivial
theorem law_holds.tw17974257514489008736 : True := trivial
theorem law_holds.tw17993387198741990920 : True := trivial
theorem law_holds.tw18006792725990754497 : True := trivial
theorem law_holds.tw1819975233463548508 : True := trivial
theorem law_holds.tw18203989763732354715 : True := trivial
theorem law_holds.tw18234560199702728603 : True := trivial
theorem law_holds.tw18254337876149969668 : True := trivial
theorem law_holds.tw18261290160731607033 : True := trivial
theorem law_holds.tw18269650602155537469 : True := trivial
theorem law_holds.tw18388893480867403737 : True := trivial
theorem law_holds.tw1905533677188600702 : True := trivial
theorem law_holds.tw1928719863018725356 : True := trivial
theorem law_holds.tw1973129929022764952 : True := trivial
theorem law_holds.tw2043166853727251185 : True := trivial
theorem law_holds.tw2055734563569237896 : True := trivial
theorem law_holds.tw2075624079617657780 : True := trivial
theorem law_holds.tw2090888555730037645 : True := trivial
theorem law_holds.tw2102315897755806987 : True := trivial
theorem law_holds.tw2136269947727277649 : True := trivial
theorem law_holds.tw2139172203440323022 : True := trivial
theorem law_holds.tw2143268655074302082 : True := trivial
theorem law_holds.tw2152083551845799040 : True := trivial
theorem law_holds.tw2269544990204364226 : True := trivial
theorem law_holds.tw2295933128562542503 : True := trivial
theorem law_holds.tw2322801206320994539 : True := trivial
theorem law_holds.tw2387193687640843687 : True := trivial
theorem law_holds.tw2442502879453312968 : True := trivial
theorem law_holds.tw2446358144275080391 : True := trivial
theorem law_holds.tw2503670479209048990 : True := trivial
theorem law_holds.tw2578278018795888234 : True := trivial
theorem law_holds.tw2643271747718453845 : True := trivial
theorem law_holds.tw2644310842459337959 : True := trivial
theorem law_holds.tw2842810181116790245 : True := trivial
theorem law_holds.tw2856731137302751260 : True := trivial
theorem law_holds.tw2907507879108658156 : True := trivial
theorem law_holds.tw3005452535816212104 : True := trivial
theorem law_holds.tw3035144380315620824 : True := trivial
theorem law_holds.tw3049941959672503198 : True := trivial
theorem law_holds.tw3186734533307500241 : True := trivial
theorem law_holds.tw3253568177066640346 : True := trivial
theorem law_holds.tw3366817510852727610 : True := trivial
theorem law_holds.tw3426384778480675251 : True := trivial
theorem law_holds.tw3438298445031660282 : True := trivial
theorem law_holds.tw3682559726232862161 : True := trivial
theorem law_holds.tw3742325753681652743 : True := trivial
theorem law_holds.tw3756308257209627903 : True := trivial
theorem law_holds.tw3756957479349018193 : True := trivial
theorem law_holds.tw3769339739266743318 : True := trivial
theorem law_holds.tw3776956092104397036 : True := trivial
theorem law_holds.tw3850334171643177529 : True := trivial
theorem law_holds.tw3850375180904979519 : True := trivial
theorem law_holds.tw3850404396616230974 : True := trivial
theorem law_holds.tw3882201998751590657 : True := trivial
theorem law_holds.tw3910120701321347557 : True := trivial
theorem law_holds.tw3912811242725288453 : True := trivial
theorem law_holds.tw3943428198234077543 : True := trivial
theorem law_holds.tw3956099054510807996 : True := trivial
theorem law_holds.tw3974387499553966400 : True := trivial
theorem law_holds.tw4030767218360268280 : True := trivial
theorem law_holds.tw4037582482628031876 : True := trivial
theorem law_holds.tw4329158554759489670 : True := trivial
theorem law_holds.tw4370086069003782432 : True := trivial
theorem law_holds.tw4439653461905209652 : True := trivial
theorem law_holds.tw4441770287765753910 : True := trivial
theorem law_holds.tw445335354869643106 : True := trivial
theorem law_holds.tw4464252984393422682 : True := trivial
theorem law_holds.tw447027507633508388 : True := trivial
theorem law_holds.tw4503035019201841076 : True := trivial
theorem law_holds.tw4515466672771955728 : True := trivial
theorem law_holds.tw4524032621918665186 : True := trivial
theorem law_holds.tw455179833554555240 : True := trivial
theorem law_holds.tw4581845663705801772 : True := trivial
theorem law_holds.tw4593294709026258786 : True := trivial
theorem law_holds.tw4781243967656130014 : True := trivial
theorem law_holds.tw4818577856007422655 : True := trivial
theorem law_holds.tw4889031023730116350 : True := trivial
theorem law_holds.tw4916342969005030805 : True := trivial
theorem law_holds.tw498061464947678834 : True := trivial
theorem law_holds.tw4992725456586698614 : True := trivial
theorem law_holds.tw5073914910041187936 : True := trivial
theorem law_holds.tw5171238609373758962 : True := trivial
theorem law_holds.tw519298541982818421 : True := trivial
theorem law_holds.tw5212653520564569363 : True := trivial
theorem law_holds.tw5274592661964301406 : True := trivial
theorem law_holds.tw5455921660152230842 : True := trivial
theorem law_holds.tw5518624996845933452 : True := trivial
theorem law_holds.tw5640673133297012132 : True := trivial
theorem law_holds.tw5731563423909890137 : True := trivial
theorem law_holds.tw575232530192455986 : True := trivial
theorem law_holds.tw576407869801174206 : True := trivial
theorem law_holds.tw5769158387606399586 : True := trivial
theorem law_holds.tw5873227374133038620 : True := trivial
theorem law_holds.tw5920216800500632969 : True := trivial
theorem law_holds.tw602461330855297101 : True := trivial
theorem law_holds.tw607667584577438428 : True := trivial
theorem law_holds.tw6103750384551583581 : True := trivial
theorem law_holds.tw6159533029260741167 : True := trivial
theorem law_holds.tw6265907326580845545 : True := trivial
theorem law_holds.tw631266038723830076 : True := trivial
theorem law_holds.tw6499956759230125245 : True := trivial
theorem law_holds.tw653560878884961445 : True := trivial
theorem law_holds.tw6564709946809587534 : True := trivial
theorem law_holds.tw65790276781078053 : True := trivial
theorem law_holds.tw6667284449218939238 : True := trivial
theorem law_holds.tw6723812968561706957 : True := trivial
theorem law_holds.tw6727219029552735585 : True := trivial
theorem law_holds.tw6765152471904792315 : True := trivial
theorem law_holds.tw6776455111828631412 : True := trivial
theorem law_holds.tw6860709855171689206 : True := trivial
theorem law_holds.tw6861490101519172755 : True := trivial
theorem law_holds.tw6911747868599837429 : True := trivial
theorem law_holds.tw6934448944433832347 : True := trivial
theorem law_holds.tw699380112222796084 : True := trivial
theorem law_holds.tw7019463264422422977 : True := trivial
theorem law_holds.tw7120836010843673076 : True := trivial
theorem law_holds.tw7185456241796803578 : True := trivial
theorem law_holds.tw7221428835167493151 : True := trivial
theorem law_holds.tw724200737284857819 : True := trivial
theorem law_holds.tw7304591109411159013 : True := trivial
theorem law_holds.tw7356724547972884604 : True := trivial
theorem law_holds.tw7407239408455114201 : True := trivial
theorem law_holds.tw7408322871517469003 : True := trivial
theorem law_holds.tw745255978533919091 : True := trivial
theorem law_holds.tw7495221243884187115 : True := trivial
theorem law_holds.tw7497986649931050792 : True := trivial
theorem law_holds.tw7636989558263936852 : True := trivial
theorem law_holds.tw7696488724909661519 : True := trivial
theorem law_holds.tw7820799176418779761 : True := trivial
theorem law_holds.tw784011647948385275 : True := trivial
theorem law_holds.tw7910590604623066228 : True := trivial
theorem law_holds.tw8176227357466254829 : True := trivial
theorem law_holds.tw8266603773606604290 : True := trivial
theorem law_holds.tw8285764192309689115 : True := trivial
theorem law_holds.tw8330938851228082562 : True := trivial
theorem law_holds.tw8369274380968253667 : True := trivial
theorem law_holds.tw8417186165934385351 : True := trivial
theorem law_holds.tw8472228645029834797 : True := trivial
theorem law_holds.tw8514742172934523775 : True := trivial
theorem law_holds.tw8553002610548859549 : True := trivial
theorem law_holds.tw8570087061310353148 : True := trivial
theorem law_holds.tw8634839017697508684 : True := trivial
theorem law_holds.tw8652346329174877282 : True := trivial
theorem law_holds.tw8666519363043736892 : True := trivial
theorem law_holds.tw8720880381367431298 : True := trivial
theorem law_holds.tw8785698371604719795 : True := trivial
theorem law_holds.tw8835965917227929528 : True := trivial
theorem law_holds.tw8854015012368427407 : True := trivial
theorem law_holds.tw8857742495270377987 : True := trivial
theorem law_holds.tw8909828626151137519 : True := trivial
theorem law_holds.tw8957123355933967898 : True := trivial
theorem law_holds.tw8970147916757833333 : True := trivial
theorem law_holds.tw8984712037535005518 : True := trivial
theorem law_holds.tw9013377322688217293 : True := trivial
theorem law_holds.tw9069877914133315304 : True := trivial
theorem law_holds.tw907578622648922086 : True := trivial
theorem law_holds.tw9184033795430018204 : True := trivial
theorem law_holds.tw9207643191828677137 : True := trivial
theorem law_holds.tw9255152265573255198 : True := trivial
theorem law_holds.tw926570990666696690 : True := trivial
theorem law_holds.tw9288214680346807717 : True := trivial
theorem law_holds.tw9423440377400516374 : True := trivial
theorem law_holds.tw9529696498207198238 : True := trivial
theorem law_holds.tw9552830710289189752 : True := trivial
theorem law_holds.tw9606376775287448836 : True := trivial
theorem law_holds.tw9682718004065560343 : True := trivial
theorem law_holds.tw9779807473162285230 : True := trivial
theorem law_holds.tw9843604407834444796 : True := trivial
theorem law_holds.tw9849722394096787677 : True := trivial
theorem law_holds.tw9992725586745946429 : True := trivial
theorem law_holds.tw4555462946037337122 : True := trivial
set_option Elab.async true in
theorem law_holds : PySem.Challenge.rw_on0030_01.Holds := by
  (w_on; o_law; k_head; (case hw => w_witness2))
  k_fill
  intro w s₀ s₁ mg mb G Y fa o pm cd doc dV kV ho hd hcd hD hmg hg args vals as hpre hlay hrd hwl hlo
  have KX := kIn_of Y
  refine Ground.open G ?_
  intro T B D TE TW
  have hfa : fa = 333 := by
    have h1 := mg_of KX (topRead_of T).g (n := Str.ofString "law") (v := .ref 333) (by k_is)
    have h2 : mg (Str.ofString "law") = some (.ref fa) := hmg
    rw [h1] at h2
    cases h2
    rfl
  subst hfa
  clear hmg D
  wrow_args hpre hlay hrd hwl hlo
  all_goals (
    rename_i ns _ _ _ _ _ _ _ S vs _ hL _ _ _ hI _ hc1 _
    have hlen := hI.length
    have fin : ∀ h' tk', (∀ b o, s₁.heap.get? b = some o → h'.get? b = some o) → GoodWG Challenge.rw_on0030_01.row.claim (classAt s₀.heap) (ExcName.means s₀.heap) [ofPy (PyData.list (List.map PyData.int ns))] s₁ (Except.ok (Flow.ret (.bool true))) { s₁ with heap := h', toks := tk' } := fun h' tk' hk =>
      ⟨.inl ⟨.bool true, .bool true, [], rfl, fun _ => rfl, .bool true, postW_of (by wrow_shape) (by wtm_val) (by str_meet; first | done | w_fin), fun _ => ⟨.nil, fun a ha => by cases ha⟩⟩, .of_keep hk, rfl, .of_eq hg⟩
    refine wpAny_gate (wpC_noRaise ?hH) ?hG
    case hH =>
      refine law_use w _ mg mb s₁ S vs ns _ T KX hL hI ?hA ?hB
      case hA => omega
      case hB => exact fin
    case hG => exact fin s₁.heap s₁.toks (fun _ _ e => e))
end
end Mine
theorem PySem.Challenge.cw_on0030_01_holds : PySem.Challenge.rw_on0030_01.Holds := by
  exact Mine.law_holds
