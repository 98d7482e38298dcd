import PyProof.Rows.All
import Wide.All
import OpenK.AllK
import Wide.FinOn
import PySem.Challenge.RW_xw0347_01
set_option Elab.async false
set_option linter.all false
-- F0
section
open PySem PySem.W PySem.Spec PySem.Calls PyProof.Rows
namespace Mine
/-! A logic for stacks on which nothing holds a bytearray: wpAny restricted to such stacks. -/
noncomputable def hid (id : String) : Bool := (["bytearray.__contains__", "bytearray.__mod__", "bytearray.__rmod__", "_struct.pack_into.held", "bytearray.find.held"] ++ Builtin.Bytes.decodersThatHold).contains id
noncomputable def okc : Code → Bool
  | .builtin id _ => !hid id
  | _ => true
def Clb (l : List (Code × Pos)) : Prop := ∀ x ∈ l, okc x.1 = true
def wpF {α : Type} (M : Model) (A : Around) (t : Sem α) (Q : α → Shared → Prop) (E : Value → Shared → Prop) (s : Shared) : Prop :=
  ∀ Γ p, Γ.In A → okc Γ.code = true → Clb Γ.below → Sem.wp M Γ t (fun a _ s' => Q a s') (fun e _ s' => E e s') p s
def codeF (M : Model) (A : Around) (c : Code) (R : Result → Shared → Prop) (s : Shared) : Prop :=
  ∀ Γ p, Γ.code = c → Γ.Below A → Clb Γ.below → wpCode M Γ R p s
theorem Clb.cons {c : Code} {p : Pos} {l : List (Code × Pos)} (h1 : okc c = true) (h2 : Clb l) : Clb ((c, p) :: l) := fun x hx => by
  rcases List.mem_cons.mp hx with rfl | hx
  · exact h1
  · exact h2 x hx
section
variable {α β : Type} {M : Model} {A : Around} {E : Value → Shared → Prop} {s : Shared} {env : Env}
theorem wpF_of {t : Sem α} {Q : α → Shared → Prop} (h : wpAny M A t Q E s) : wpF M A t Q E s := fun Γ p hi _ _ => h Γ p hi
theorem codeF_of {c : Code} {R : Result → Shared → Prop} (h : codeAny M A c R s) : codeF M A c R s := fun Γ p hc hi _ => h Γ p hc hi
theorem wpF_mono {t : Sem α} {Q Q' : α → Shared → Prop} {E' : Value → Shared → Prop} (h : wpF M A t Q E s) (hQ : ∀ a s, Q a s → Q' a s) (hE : ∀ e s, E e s → E' e s) : wpF M A t Q' E' s :=
  fun Γ p h1 h2 h3 => Sem.wp_mono M Γ t (fun a _ s => hQ a s) (fun e _ s => hE e s) p s (h Γ p h1 h2 h3)
theorem codeF_mono {c : Code} {R R' : Result → Shared → Prop} (h : codeF M A c R s) (hR : ∀ r s, R r s → R' r s) : codeF M A c R' s :=
  fun Γ p hc hi h3 => wpCode_mono hR (h Γ p hc hi h3)
theorem wpF_pure {a : α} {Q : α → Shared → Prop} (h : Q a s) : wpF M A (pure a) Q E s := fun _ _ _ _ _ => h
theorem wpF_bind {m : Sem α} {f : α → Sem β} {Q : β → Shared → Prop} (h : wpF M A m (fun a s' => wpF M A (f a) Q E s') E s) : wpF M A (m >>= f) Q E s := fun Γ p h1 h2 h3 => by
  rw [Sem.wp_bind']
  exact Sem.wp_mono M Γ m (fun a p' s' h' => h' Γ p' h1 h2 h3) (fun _ _ _ h' => h') p s (h Γ p h1 h2 h3)
theorem wpF_holding {vs : List Value} {m : Sem α} {Q : α → Shared → Prop} (h : wpF M A m Q E s) : wpF M A (holding vs m) Q E s :=
  fun Γ p h1 h2 h3 => by rw [Sem.wp_holding]; exact h Γ p h1 h2 h3
theorem wpF_onRaise {m : Sem α} {k : Value → Sem Unit} {Q : α → Shared → Prop} (h : wpF M A m Q (fun e s' => wpAny M A (k e) (fun _ s'' => E e s'') E s') s) : wpF M A (m.onRaise k) Q E s := fun Γ p h1 h2 h3 => by
  rw [Sem.wp_onRaise]
  exact Sem.wp_mono M Γ m (fun _ _ _ h' => h') (fun e p' s' h' => h' Γ p' h1) p s (h Γ p h1 h2 h3)
theorem wpF_operate {vs : List Value} {m : Sem Value} {Q : Value → Shared → Prop} (h : wpF M A m Q E s) : wpF M A (operate vs m) Q E s :=
  fun Γ p h1 h2 h3 => by rw [Sem.wp_operate]; exact h Γ p h1 h2 h3
theorem wpF_run {c : Code} {hd : Option Value} {Q : Flow → Shared → Prop}
    (h : codeF M (A.mark hd) c (fun r s' => match r with | .ok f => Q f s' | .error e => E e s') s) (hnb : hd ≠ some byPass := by intro x; cases x) : wpF M A (run c hd) Q E s :=
  fun Γ p h1 h2 h3 => by rw [Sem.wp_run]; exact h _ p rfl (h1.enter c hd p hnb) (Clb.cons h2 h3)
theorem wpF_runValue {c : Code} {Q : Value → Shared → Prop}
    (h : codeF M A c (fun r s' => match r with | .ok (.ret v) => Q v s' | .ok _ => False | .error e => E e s') s) : wpF M A (runValue c) Q E s :=
  fun Γ p h1 h2 h3 => by rw [Sem.wp_runValue]; exact h _ p rfl (h1.enter c none p (by intro x; cases x)) (Clb.cons h2 h3)
theorem wpF_call {f : Value} {pos : List Value} {kw : List (Str × Value)} {Q : Value → Shared → Prop}
    (h : codeF M A (.call f ⟨pos, kw⟩) (fun r s' => match r with | .ok (.ret v) => Q v s' | .ok _ => False | .error e => E e s') s) : wpF M A (call f pos kw) Q E s := wpF_runValue h
theorem codeF_of_tree {c : Code} {R : Result → Shared → Prop} (hc : okc c = true)
    (h : wpF M (A.under c) (M.den c) (fun fin s' => match fin with | .done f => R (.ok f) s' | .again c' => c'.quiet = true ∧ codeF M A c' R s') (fun e s' => R (.error e) s') s) : codeF M A c R s := fun Γ p e hi h3 => by
  rw [wpCode_iff_wp, e]
  refine Sem.wp_mono M Γ _ (fun fin p' s' h' => ?_) (fun _ _ _ h' => h') p s (h Γ p (e ▸ hi.in) (by rw [e]; exact hc) h3)
  cases fin with
  | done f => exact h'
  | again c' => exact ⟨h'.1, h'.2 (Γ.goto c') p' rfl (hi.goto c') h3⟩
theorem execsF_cons {st : Stmt} {rest : List Stmt} {Q : Flow → Shared → Prop}
    (h : wpF M A (exec st env) (fun f s' => match f with | .next => wpF M A (execs rest env) Q E s' | f => Q f s') E s) : wpF M A (execs (st :: rest) env) Q E s := by
  rw [execs_cons]
  refine wpF_bind (wpF_mono h (fun f s' h' => ?_) fun _ _ x => x)
  cases f <;> first | exact h' | exact wpF_pure h'
theorem stand_F {pos : Pos} {k : Unit → Sem α} {Q : α → Shared → Prop} (h : wpF M A (k ()) Q E s) : wpF M A (standAt pos >>= k) Q E s := wpF_bind (wpF_of (wpAny_standAt h))
theorem assignF_name {x : Str} {pos' pos : Pos} {value : Expr} {Q : Flow → Shared → Prop}
    (h : wpF M A (eval value env) (fun v s₁ => wpAny M A (storeName env x v) (fun _ => Q .next) E s₁) E s)
    (hs : swapsWith value (some (.Name x pos')) pos.line env = pure false := by rfl) : wpF M A (exec (.Assign [.Name x pos'] value pos) env) Q E s := by
  rw [exec_Assign_Name env x pos' value pos hs]
  refine stand_F (wpF_bind (wpF_mono h (fun v s₁ h₁ => stand_F (wpF_of (wpAny_bind (wpAny_bindName (wpAny_mono h₁ (fun _ _ x => wpAny_pure x) fun _ _ x => x))))) fun _ _ x => x))
theorem ifF {test : Expr} {body orelse : List Stmt} {pos : Pos} {Q : Flow → Shared → Prop}
    (h : wpF M A (isTrue test env (eval test env)) (fun b s₂ => if b then wpF M A (execs body env) Q E s₂ else wpF M A (execs orelse env) Q E s₂) E s) : wpF M A (exec (.If test body orelse pos) env) Q E s := by
  rw [exec_If]
  refine stand_F (wpF_bind (wpF_mono h (fun b s₂ h₂ => ?_) fun _ _ x => x))
  cases b <;> exact h₂
end
section
variable {prog : Program} {w : World} {A : Around} {E : Value → Shared → Prop} {s : Shared} {env : Env} {R : Result → Shared → Prop}
theorem codeF_func {body : List Stmt}
    (h : wpF (model prog w) (A.deeper env) (execs body env) (fun f s' => R (.ok (.ret (match f with | .ret v => v | _ => .none))) s')
      (fun e s' => wpAny (model prog w) (A.deeper env) (leaving env e) (fun _ s'' => R (.error e) s'') (fun e' s'' => R (.error e') s'') s') s) : codeF (model prog w) A (.func body env) R s := by
  refine codeF_of_tree rfl ?_
  show wpF _ (A.deeper env) (do point; match ← (execs body env).onRaise (leaving env) with | .ret v => ret v | _ => ret .none) _ _ s
  refine wpF_bind (wpF_of (wpAny_point (wpF_bind (wpF_onRaise (wpF_mono h (fun f s' h' => ?_) fun _ _ h' => h')))))
  cases f <;> exact wpF_pure h'
theorem codeF_call_function {a : Addr} {args : Args} {o : Obj} {fd : FuncData} {body : List Stmt} (hroom : A.depth < recursionLimit) (ho : s.heap.get? a = some o)
    (hd' : o.data = .func fd) (hco : fd.scope.isCoroutine = false) (hgen : fd.scope.isGenerator = false) (hbody : fd.body = .stmts body) (hcd : s.heap.CodeRec fd.code fd.qualname)
    (h : wpAny (model prog w) A.in1 (bindArgs fd args) (fun binds s₁ =>
      wpAny (model prog w) A.in1 (newFunctionEnv fd.scope fd.globals fd.closure binds (fd.qualname ++ ".<locals>.") (some a) fd.code none fd.builtins)
        (fun env s₂ => s₂.heap.NoLimit ∧ codeF (model prog w) A (.func body env) R s₂) (fun e s' => R (.error e) s') s₁) (fun e s' => R (.error e) s') s) : codeF (model prog w) A (.call (.ref a) args) R s := by
  refine codeF_of_tree rfl ?_
  show wpF _ A.in1 (callAny (.ref a) args) _ _ s
  simp only [callAny]
  refine wpF_bind (wpF_of (wpAny_load ho ?_))
  obtain ⟨c, oc, vs, tq, hc, hoc, hdc, hq⟩ := hcd
  simp only [hd', callFunction, hco, hgen, hbody, hc]
  rw [hc] at h
  refine wpF_bind (m := field (.ref c) 1) (wpF_of (wpAny_field hoc hdc hq (wpF_bind (wpF_pure ?_))))
  exact wpF_bind (wpF_of (wpAny_mono h (fun binds s₁ h₁ => wpF_bind (wpF_of (wpAny_mono h₁ (fun env s₂ h₂ => wpF_bind (wpF_of (wpAny_enterFrame h₂.1 hroom
    (wpF_pure (And.intro rfl h₂.2))))) fun _ _ h' => h'))) fun _ _ h' => h'))
end
end Mine
end
-- H0
section
open PySem PySem.W PySem.Spec PySem.Calls PyProof.Rows
namespace Mine
theorem wp_top {prog : Program} {w : World} {t : Sem Fin} {R : Result → Shared → Prop} {s : Shared}
    (h : wpF (model prog w) callerA t (fun fin s' => ∃ f, fin = .done f ∧ R (.ok f) s') (fun e s' => R (.error e) s') s) (p : Pos) :
    Sem.wp (model prog w) ⟨.builtin "claim.caller" {}, none, none, [], none⟩ t (Sem.finPost (model prog w) ⟨.builtin "claim.caller" {}, none, none, [], none⟩ R) (fun e _ s' => R (.error e) s') p s := by
  refine Sem.wp_mono _ _ _ (fun fin p' s' h' => ?_) (fun _ _ _ h' => h') _ _ (h _ p caller_in (by decide) (fun _ hx => nomatch hx))
  obtain ⟨f, rfl, hf⟩ := h'
  exact hf
theorem thread_top {prog : Program} {w : World} {t : Sem Fin} {s : Shared} {R : Result → Shared → Prop} (hreg : s.asleep)
    (h : wpF (model prog w) callerA t (fun fin s' => ∃ f, fin = .done f ∧ (R (.ok f) s' ∧ leftWithCleanup s'.gens = false)) (fun e s' => R (.error e) s' ∧ leftWithCleanup s'.gens = false) s) :
    ∃ n r s' s'', runN (denote table) prog w n s ⟨t, .builtin "claim.caller" {}, default, []⟩ = .halted (outcomeOf r) s' ∧
      schedN (denote table) prog w n (.single s ⟨t, .builtin "claim.caller" {}, default, []⟩) = .halted (outcomeOf r) s' ∧ s'.forget = s''.forget ∧ R r s'' := by
  obtain ⟨n, r, a, b, h1, h2, h3, h4⟩ := wp_halts_full (M := model prog w) (R := R) hreg (wp_top (R := fun r s' => R r s' ∧ leftWithCleanup s'.gens = false) h default)
  exact ⟨n, r, b, a, h2, h1, h3, h4⟩
theorem keepG {G : Prop} (h : ∀ P : Prop, (G → P) → P) : G := h G (fun x => x)
theorem call_top {c : ClaimW} {tree : List Value → Sem Fin} {w : World} {s : Shared} {free : Addr → Prop} {gens : Prop} {kept : Heap → Prop} (hz : s.asleep) (hgens : s.gens = #[])
    (hspec : ∀ args, c.pre args = true → WData.layableAll args = true → ∀ ord : List DictEntry → List DictEntry, (∀ l, (ord l).Perm l) →
      ∃ vs s₁, layAllW c.records (classAt s.heap) w.params ord args s = some (vs, s₁) ∧
        wpF (model c.prog w) callerA (tree vs) (fun fin s' => ∃ f, fin = .done f ∧ (c.Ends s args vs s₁ (.ok f) s' ∧ s'.os = s.os ∧ AllBare s'.gens ∧ kept s'.heap))
          (fun e s' => c.Ends s args vs s₁ (.error e) s' ∧ s'.os = s.os ∧ AllBare s'.gens ∧ kept s'.heap) s₁) :
    c.CallFrom (fun vs => ⟨tree vs, .builtin "claim.caller" {}, default, []⟩) w free gens kept s := by
  intro args hpre hlay ord hord
  refine keepG fun G9 hG9 => ?_
  obtain ⟨vs, s₁, hl, hc⟩ := hspec args hpre hlay ord hord
  have hal := layAllW_rest _ _ _ hl
  obtain ⟨k, r, s', s'', hrun, hsched, hfo, hcase, hos, hkp⟩ := thread_top (prog := c.prog) (w := w) (t := tree vs) (s := s₁) (R := fun r s' => c.Ends s args vs s₁ r s' ∧ s'.os = s.os ∧ kept s'.heap)
    (Shared.asleep_of_life hal.2.2.2 hz)
    (wpF_mono hc (fun fin s' ⟨f, e, a1, a2, a3, a4⟩ => ⟨f, e, ⟨a1, a2, a4⟩, leftWithCleanup_false_of_bare a3⟩) fun e s' ⟨a1, a2, a3, a4⟩ => ⟨⟨a1, a2, a4⟩, leftWithCleanup_false_of_bare a3⟩)
  obtain ⟨eh, _, _, eo, _⟩ := Shared.forget_eq hfo
  have hcase := hcase.congr eh
  rw [← eh] at hkp
  rw [← eo] at hos
  refine hG9 ⟨vs, s₁, hl, k, _, s', hsched, ?_, (fun _ i x hx => by rw [hgens] at hx; simp at hx), hkp, by rw [(runN_life _ _ _ hrun).trans hal.2.2.2], Shared.rest_eq hos⟩
  clear hrun hsched
  refine keepG fun G8 hG8 => ?_
  rcases hcase with ⟨v, er, d1, d2, d3, d4, d5⟩ | ⟨e, ob, cls, er, d1, d2, d3, d4, d5⟩
  · exact hG8 (.inl ⟨v, by rw [er]; rfl, d1, d2, d3, fun b o y _ => d4 b o y, d5⟩)
  · exact hG8 (.inr ⟨e, ob, cls, by rw [er]; rfl, d1, d2, d3, d4, fun b o y _ => d5 b o y⟩)
abbrev WalkF (q : Program) (loose : List Str) (XP : (Str → Option Value) → Heap → Prop) (YP : World → Heap → Prop) (r : RowW) (d : DefRec) (kwd : List (Str × Expr)) : Prop :=
  ∀ (w : World) (s₀ s₁ : Shared) (mg mb : Str → Option Value), Ground q loose r.records XP w s₀ mg mb s₁.heap → YP w s₁.heap → ∀ (a : Addr) (o : Obj) (pm cd doc dV kV : Value), s₁.heap.get? a = some o →
    o.data = .func { docDef d.name d.params d.body d.scope pm cd doc with defaults := dV, kwdefaults := kV } → s₁.heap.CodeRec cd d.name → Dflts mg s₁.heap d.params kwd dV kV → mg d.name = some (.ref a) → s₁.gens = #[] →
    ∀ (args : List WData) (vals : List Value) (as : List Addr), r.claim.pre args = true → WData.layableAll args = true → ReadsAllW r.records (classAt s₀.heap) s₁.heap vals args as → WellAll w.params s₁.heap vals args → (∀ a ∈ as, (a == sysModules) = false) →
      wpF (model r.prog w) callerA (PySem.call (.ref a) vals) (fun v s' => GoodWG r.claim (classAt s₀.heap) (ExcName.means s₀.heap) args s₁ (.ok (.ret v)) s')
        (fun e s' => GoodWG r.claim (classAt s₀.heap) (ExcName.means s₀.heap) args s₁ (.error e) s') s₁
/-- the head of an open law whose walk is made over clean stacks alone; it stands where the head's tactic looks for its theorem -/
theorem PySem.W.holds_open {r : OpenRow} {q : Program} {loose : List Str} {Xt : Shared → Bool} {XP : (Str → Option Value) → Heap → Prop} {α : Type} {Yf : Shared → α} {Ya : World → α} {YP : World → Heap → Prop} {d : DefRec} {kwd : List (Str × Expr)} {N : Nat}
    (left : LeftO r.prog q loose Xt Yf Ya N) (hY : ∀ w s, Yf s = Ya w → YP w s.heap) (hYk : ∀ w h h', YP w h → (∀ b o, h.get? b = some o → h'.get? b = some o) → YP w h')
    (hX : ∀ s, Xt s = true → XP (s.heap.nsMap mainGlobals) s.heap) (hXk : ∀ mg h h', XP mg h → (∀ b o, h.get? b = some o → h'.get? b = some o) → XP mg h')
    (hdef : defOf q r.name = some (d, kwd)) (hp : r.prog.theDef r.name = some (d.params, d.body, d.scope)) (hk : kwWritten? d.params.kwonlyargs d.params.kw_defaults = some kwd) (hRf : ∀ s, Xt s = true → RecFacts r.records s.heap) (hwr : (!r.writes || r.records.isEmpty) = true)
    (k1 : r.wellSaid = true) (ok : (chainsOk q && opensWell r.prog && (frees r.toRowW && r.within.isEmpty)) = true) (hb : r.prog.bare) (hw : r.toRowW.promised)
    (call : WalkF q loose XP YP r.toRowW d kwd) : r.Holds := by
  obtain ⟨ok, k5⟩ := Bool.and_eq_true_iff.mp ok
  obtain ⟨hch, o1⟩ := Bool.and_eq_true_iff.mp ok
  obtain ⟨k5, k6⟩ := Bool.and_eq_true_iff.mp k5
  obtain ⟨hsame, hu, ha, hap, hm⟩ := frees_parts k5
  have hi := ident_freeW hu ha hap
  have hwi : r.claim.within = [] := List.isEmpty_iff.mp k6
  refine ⟨k1, hw, ⟨hb, o1, by show r.makers.map _ = []; rw [hm]; rfl⟩, hw.witness, fun w => ⟨(left.behind hX hch w).1, fun s' hs' => ?_⟩⟩
  refine keepG fun G9 hG9 => ?_
  obtain ⟨s₀, hf, hg0, s, hT, hz, hgens, hg, G00, y⟩ := (left.behind (XP := fun mg h => XP mg h ∧ RecFacts r.records h) (fun s hs => ⟨hX s hs, hRf s hs⟩) hch w).2 s' hs'
  have G0 : Ground q loose [] XP w s (s.heap.nsMap mainGlobals) (s.heap.nsMap builtinsNs) s.heap := ⟨G00.T, G00.B, G00.D, G00.TE, G00.TD, G00.W, G00.X.1, G00.cls, G00.has, G00.apart, G00.once, G00.K⟩
  have RF := G00.X.2
  have pin : ∀ n ∈ (if r.pinned then [r.name] else []), isTheDefsW r.prog s.heap n := fun n hn => by
    obtain rfl : n = r.name := by split at hn <;> simp_all
    exact pinned_of_view hg G0 hdef hp hk
  refine hG9 ⟨s₀, hf, hg0, s, hT, pin, RF.1, RF.2.1, ?_⟩
  have hgens : s.gens = #[] := Array.eq_empty_of_size_eq_zero (beq_iff_eq.mp hgens)
  have G : Ground q loose r.records XP w s _ _ s.heap := RF.ground G0
  refine call_top (c := r.claim) hz hgens fun args hpre hlay ord hord => ?_
  refine keepG fun G9 hG9 => ?_
  obtain ⟨⟨vs, s₁⟩, hlaid⟩ := Option.isSome_iff_exists.mp (layAllW_isSome (P := w.params) (ord := ord) G.has args r.args s (pre_splitW hpre).1)
  have keeps := layAllW_keeps _ _ _ hlaid
  have hal := layAllW_rest _ _ _ hlaid
  obtain ⟨as, hrd, hin, hold⟩ := reads_layAllW hord _ _ _ hlaid hlay s₁.heap (fun _ _ e => e)
  have L : Laid r.records w s s₁ args vs as := ⟨⟨ord, hord, hlaid⟩, hrd, hin, hold, keeps, hal.1.trans hgens, hal.2.2.1⟩
  have G₁ := G.keeps hXk keeps
  obtain ⟨a, o, pm, cd, doc, dV, kV, h1, h2, h3, h4, h5⟩ := G₁.fn hdef
  have H := call w s s₁ _ _ G₁ (hYk _ _ _ (hY w s y) keeps) a o pm cd doc dV kV h2 h3 h4 h5 (defOf_name hdef ▸ h1) L.gens args vs as hpre hlay L.reads L.well (L.low G.low)
  refine hG9 ⟨vs, s₁, hlaid, wpF_bind (wpF_of (wpAny_nsGet G₁.T.g ?_))⟩
  show wpF _ _ (match (s.heap.nsMap mainGlobals) r.name with
    | some f => (do ret (← PySem.call f vs))
    | none => unsupported "claim.caller:no-such-global") _ _ _
  rw [h1]
  have fin : ∀ (res : Result) s', GoodWG r.claim (classAt s.heap) (ExcName.means s.heap) args s₁ res s' → r.claim.Ends s args vs s₁ res s' ∧ s'.os = s.os ∧ AllBare s'.gens ∧ (r.writes = true → namesKept r.prog r.keeps s.heap s'.heap ∧ ∀ x ∈ r.records, ∀ a, classAt s.heap x.1 = some a → recordClass s'.heap a x.1 (x.2.map (·.1)) = true) := fun res s' g => by
    have z := g.laid (c := r.claim) hsame hwi hi L
    exact ⟨z.1, z.2.1, z.2.2, fun q => ⟨namesKept_of hT hg _ keeps g.2.1.old, noTable hwr q⟩⟩
  exact wpF_bind (wpF_mono H (fun v s' g => wpF_pure ⟨_, rfl, fin _ _ g⟩) fun e s' g => fin _ _ g)
end Mine
end
-- H1
section
open PySem PySem.W PySem.Spec PySem.Calls PyProof.Rows
namespace Mine.Tr
class Esc (r : OpenRow) : Prop where
  out : r.Holds
/-- the head's parts laid down for a row that is given to hold -/
theorem PySem.W.holds_open {r : OpenRow} [i : Esc r] {q : Program} {loose : List Str} {Xt : Shared → Bool} {XP : (Str → Option Value) → Heap → Prop} {α : Type} {Yf : Shared → α} {Ya : World → α} {YP : World → Heap → Prop} {d : DefRec} {kwd : List (Str × Expr)} {N : Nat}
    (_ : LeftO r.prog q loose Xt Yf Ya N) (_ : ∀ w s, Yf s = Ya w → YP w s.heap) (_ : ∀ w h h', YP w h → (∀ b o, h.get? b = some o → h'.get? b = some o) → YP w h')
    (_ : ∀ s, Xt s = true → XP (s.heap.nsMap mainGlobals) s.heap) (_ : ∀ mg h h', XP mg h → (∀ b o, h.get? b = some o → h'.get? b = some o) → XP mg h')
    (_ : defOf q r.name = some (d, kwd)) (_ : r.prog.theDef r.name = some (d.params, d.body, d.scope)) (_ : kwWritten? d.params.kwonlyargs d.params.kw_defaults = some kwd) (_ : ∀ s, Xt s = true → RecFacts r.records s.heap) (_ : (!r.writes || r.records.isEmpty) = true)
    (_ : r.wellSaid = true) (_ : (chainsOk q && opensWell r.prog && (frees r.toRowW && r.within.isEmpty)) = true) (_ : r.prog.bare) (_ : r.toRowW.promised)
    (_ : True) : r.Holds := i.out
end Mine.Tr
end
-- Hd6
section
open PySem PySem.W PyProof.Rows
namespace Mine.Tr
theorem pre.tw8798018131878976213 : True := True.intro
theorem pre.tw7488539167682844373 : True := True.intro
theorem pre.tw12829379032923780341 : True := True.intro
theorem pre.tw5301265103263826165 : True := True.intro
theorem pre.tw2390216013763854581 : True := True.intro
theorem pre.tw11908808313925703925 : True := True.intro
theorem pre.tw2514222478552022261 : True := True.intro
theorem pre.tw9710710349959066901 : True := True.intro
theorem pre.tw3798249531889441621 : True := True.intro
theorem pre.tw12839488879414035285 : True := True.intro
theorem pre.tw15191734515670471541 : True := True.intro
theorem pre.tw15667857556913502069 : True := True.intro
theorem pre.tw2394265742442222485 : True := True.intro
theorem pre.tw9589412995525732245 : True := True.intro
theorem pre.tw5003980348687797685 : True := True.intro
theorem pre.tw17748475983504289781 : True := True.intro
theorem pre.tw10448542241634897909 : True := True.intro
theorem pre.tw1781576105292090421 : True := True.intro
theorem pre.tw5268666974405575253 : True := True.intro
theorem pre.tw4863749176182429269 : True := True.intro
theorem pre.tw5212261520421674613 : True := True.intro
theorem pre.tw15939878995788884597 : True := True.intro
theorem pre.tw2442571900376821365 : True := True.intro
theorem pre.tw17944935830103129717 : True := True.intro
theorem pre.tw13724182333341692565 : True := True.intro
theorem pre.tw6865044059497275029 : True := True.intro
theorem pre.tw3560957544289734837 : True := True.intro
theorem pre.tw8041135457018709173 : True := True.intro
theorem pre.tw16670461602177689781 : True := True.intro
theorem pre.tw12302295033264598773 : True := True.intro
theorem pre.tw14644749442068542261 : True := True.intro
theorem pre.tw12097045185629919029 : True := True.intro
theorem pre.tw8363273857716694837 : True := True.intro
theorem pre.tw16139649945072979285 : True := True.intro
theorem pre.tw7633995334661744981 : True := True.intro
theorem pre.tw8499061824262611285 : True := True.intro
theorem pre.tw7035699148794925429 : True := True.intro
theorem pre.tw1523636974718424469 : True := True.intro
theorem pre.tw8161210477504385973 : True := True.intro
theorem pre.tw12360301869183849397 : True := True.intro
theorem pre.tw17876303750950484469 : True := True.intro
theorem pre.tw9527756560894313973 : True := True.intro
theorem pre.tw1701293946593597941 : True := True.intro
theorem pre.tw2485449280187305461 : True := True.intro
theorem pre.tw8511291828456459797 : True := True.intro
theorem pre.tw1235389414628357685 : True := True.intro
theorem pre.tw741489849508533813 : True := True.intro
theorem pre.tw12579640067860062293 : True := True.intro
theorem pre.tw16771730987669214293 : True := True.intro
theorem pre.tw3163271204041560149 : True := True.intro
theorem pre.tw5452803669480417397 : True := True.intro
theorem pre.tw3106298084861282421 : True := True.intro
theorem pre.tw2984358296586720373 : True := True.intro
theorem pre.tw5811864204759207029 : True := True.intro
theorem pre.tw17170305194184933525 : True := True.intro
theorem pre.tw3829902936148455476 : True := True.intro
theorem pre.tw774078751175964724 : True := True.intro
theorem pre.tw13572864549782404180 : True := True.intro
theorem pre.tw5032812760362134612 : True := True.intro
theorem pre.tw2988723722958688884 : True := True.intro
theorem pre.tw4820847965436949140 : True := True.intro
theorem pre.tw16589583731944423604 : True := True.intro
theorem pre.tw13961798760360006836 : True := True.intro
theorem pre.tw11559712224927176916 : True := True.intro
theorem pre.tw17809060943565895892 : True := True.intro
theorem pre.tw9434978035675298004 : True := True.intro
theorem pre.tw9209116122456761588 : True := True.intro
theorem pre.tw2848419565485641972 : True := True.intro
theorem pre.tw8180130434252916980 : True := True.intro
theorem pre.tw8925960167356916500 : True := True.intro
theorem pre.tw11314017759494932244 : True := True.intro
theorem pre.tw469507595486068084 : True := True.intro
theorem pre.tw9981729115283873140 : True := True.intro
theorem pre.tw9231840820100969844 : True := True.intro
theorem pre.tw16304492101342724500 : True := True.intro
theorem pre.tw11884566007027487124 : True := True.intro
theorem pre.tw2759148957214222740 : True := True.intro
theorem pre.tw8954267274497848276 : True := True.intro
theorem pre.tw8271609049428081172 : True := True.intro
theorem pre.tw9034601168463801876 : True := True.intro
theorem pre.tw2782992192110130740 : True := True.intro
theorem pre.tw1861751459824508500 : True := True.intro
theorem pre.tw16609618085613329524 : True := True.intro
theorem pre.tw17702073766641579124 : True := True.intro
theorem pre.tw4010737261194100436 : True := True.intro
theorem pre.tw8992613816312496852 : True := True.intro
theorem pre.tw1051090366629113588 : True := True.intro
theorem pre.tw16230189530775685396 : True := True.intro
theorem pre.tw1011813517155768628 : True := True.intro
theorem pre.tw1289723360716358996 : True := True.intro
theorem pre.tw12707524389106458964 : True := True.intro
theorem pre.tw15311694394458129748 : True := True.intro
theorem pre.tw10212794120541997940 : True := True.intro
theorem pre.tw1286752872840046484 : True := True.intro
theorem pre.tw16266082645439525780 : True := True.intro
theorem pre.tw9814634380331083220 : True := True.intro
theorem pre.tw1126413931233067476 : True := True.intro
theorem pre.tw18355278833801046484 : True := True.intro
theorem pre.tw17626740949822864884 : True := True.intro
theorem pre.tw398885583564813812 : True := True.intro
theorem pre.tw11398356777989484564 : True := True.intro
theorem pre.tw8921832358760708647 : True := True.intro
theorem pre.tw12920469729862707783 : True := True.intro
theorem pre.tw5639759730412848711 : True := True.intro
theorem pre.tw3898359438555795047 : True := True.intro
theorem pre.tw13637537616417111655 : True := True.intro
theorem pre.tw2447606003427487879 : True := True.intro
theorem pre.tw3655657570983800967 : True := True.intro
theorem pre.tw14239871790334706823 : True := True.intro
theorem pre.tw17039947832174666919 : True := True.intro
theorem pre.tw7232176909198587623 : True := True.intro
theorem pre.tw11130110105565392615 : True := True.intro
theorem pre.tw8750416462529652455 : True := True.intro
theorem pre.tw17478240057978370791 : True := True.intro
theorem pre.tw5845199198121176807 : True := True.intro
theorem pre.tw13400524427184599783 : True := True.intro
theorem pre.tw9000879650176314119 : True := True.intro
theorem pre.tw13766877097540915975 : True := True.intro
theorem pre.tw7737098620712244999 : True := True.intro
theorem pre.tw2737141027092196679 : True := True.intro
theorem pre.tw10954077557423103303 : True := True.intro
theorem pre.tw15330677265148058983 : True := True.intro
theorem pre.tw17494724502476843943 : True := True.intro
theorem pre.tw17984926163908707783 : True := True.intro
theorem pre.tw1323443641644478951 : True := True.intro
theorem pre.tw7857705295155955175 : True := True.intro
theorem pre.tw9156353633658480679 : True := True.intro
theorem pre.tw7009514284429846567 : True := True.intro
theorem pre.tw7166416113783857223 : True := True.intro
theorem pre.tw9527802579836548167 : True := True.intro
theorem pre.tw6389758873554231399 : True := True.intro
theorem pre.tw12296751929814315111 : True := True.intro
theorem pre.tw16820320413948181127 : True := True.intro
theorem pre.tw13057568313146027655 : True := True.intro
theorem pre.tw568107384616371399 : True := True.intro
theorem pre.tw8196769139621668039 : True := True.intro
theorem pre.tw1830197222122221799 : True := True.intro
theorem pre.tw2585477138702462183 : True := True.intro
theorem pre.tw1298966832692022535 : True := True.intro
theorem pre.tw8286273812441734407 : True := True.intro
theorem pre.tw6228383874757352231 : True := True.intro
theorem pre.tw11199692648078951207 : True := True.intro
theorem pre.tw15131867610402084679 : True := True.intro
theorem pre.tw10561148524607941447 : True := True.intro
theorem pre.tw14858543189884124999 : True := True.intro
theorem pre.tw2183434182934158183 : True := True.intro
theorem pre.tw17180807148942083495 : True := True.intro
theorem pre.tw3780342702030231495 : True := True.intro
theorem pre.tw12895445586819321799 : True := True.intro
theorem pre.tw10647913541872252871 : True := True.intro
theorem pre.tw14582470955689980903 : True := True.intro
theorem pre.tw11480654220920244102 : True := True.intro
theorem pre.tw12099922751420392326 : True := True.intro
theorem pre.tw3361736384251959206 : True := True.intro
theorem pre.tw10250191378586833862 : True := True.intro
theorem pre.tw12078672366728716774 : True := True.intro
theorem pre.tw14517343483485254150 : True := True.intro
theorem pre.tw16165641334357510662 : True := True.intro
theorem pre.tw1808481325436446246 : True := True.intro
theorem pre.tw7653367630669148230 : True := True.intro
theorem pre.tw12460195963976514662 : True := True.intro
theorem pre.tw656123146393999014 : True := True.intro
theorem pre.tw15887404844435909286 : True := True.intro
theorem pre.tw12983456955223307974 : True := True.intro
theorem pre.tw2358794670534545638 : True := True.intro
theorem pre.tw5701605409287964934 : True := True.intro
theorem pre.tw13069870060680896806 : True := True.intro
theorem pre.tw5872750885528538406 : True := True.intro
theorem pre.tw16510350135151024966 : True := True.intro
theorem pre.tw2912648070557963110 : True := True.intro
theorem pre.tw13892144240281974150 : True := True.intro
theorem pre.tw11134749261147967878 : True := True.intro
theorem pre.tw14989803872633607558 : True := True.intro
theorem pre.tw746273528850264486 : True := True.intro
theorem pre.tw16470632939045681606 : True := True.intro
theorem pre.tw10115972037552645574 : True := True.intro
theorem pre.tw15812103124075929574 : True := True.intro
theorem pre.tw8494927716370811878 : True := True.intro
theorem pre.tw13328676958536207366 : True := True.intro
theorem pre.tw11819346116656841766 : True := True.intro
theorem pre.tw658954072101455910 : True := True.intro
theorem pre.tw3085553161801474630 : True := True.intro
theorem pre.tw9518930581654091366 : True := True.intro
theorem pre.tw3791227342523294310 : True := True.intro
theorem pre.tw5045780424307714662 : True := True.intro
theorem pre.tw6719655497523567206 : True := True.intro
theorem pre.tw5030641967007369350 : True := True.intro
theorem pre.tw12915914812957371526 : True := True.intro
theorem pre.tw192432405454526630 : True := True.intro
theorem pre.tw12029390654684068038 : True := True.intro
theorem pre.tw8424627143690803398 : True := True.intro
theorem pre.tw2092804381303232710 : True := True.intro
theorem pre.tw16373210593575418598 : True := True.intro
theorem pre.tw15153764016622357286 : True := True.intro
theorem pre.tw2995728172737222438 : True := True.intro
theorem pre.tw5363577897921548614 : True := True.intro
theorem pre.tw15872728814592226993 : True := True.intro
theorem pre.tw13602648482698926801 : True := True.intro
theorem pre.tw12275443984313006321 : True := True.intro
theorem pre.tw3534660171798764817 : True := True.intro
theorem pre.tw9043112669954386193 : True := True.intro
theorem pre.tw18220131214624590097 : True := True.intro
theorem pre.tw960022294228353329 : True := True.intro
theorem pre.tw8715908339660556593 : True := True.intro
theorem pre.tw17139788558848067889 : True := True.intro
theorem pre.tw12178768643486779217 : True := True.intro
theorem pre.tw16233106848640508753 : True := True.intro
theorem pre.tw615794647916294577 : True := True.intro
theorem pre.tw15076241328571253745 : True := True.intro
theorem pre.tw10924699014345569329 : True := True.intro
theorem pre.tw7052897299138147953 : True := True.intro
theorem pre.tw15859797862868051601 : True := True.intro
theorem pre.tw17698001692157993137 : True := True.intro
theorem pre.tw13884855659384004785 : True := True.intro
theorem pre.tw7524394255881882801 : True := True.intro
theorem pre.tw16324062669737074865 : True := True.intro
theorem pre.tw3718308572743526609 : True := True.intro
theorem pre.tw10897481395557629681 : True := True.intro
theorem pre.tw10729348509525750577 : True := True.intro
theorem pre.tw18170298534665818929 : True := True.intro
theorem pre.tw8722101898211706673 : True := True.intro
theorem pre.tw17808517966465722705 : True := True.intro
theorem pre.tw2278188371471765873 : True := True.intro
theorem pre.tw7153620719908210065 : True := True.intro
theorem pre.tw16705024657945289105 : True := True.intro
theorem pre.tw2275715035436580785 : True := True.intro
theorem pre.tw8220355147289253809 : True := True.intro
theorem pre.tw484451116897946577 : True := True.intro
theorem pre.tw1213741692715862513 : True := True.intro
theorem pre.tw4743886353223026193 : True := True.intro
theorem pre.tw7389540500348241425 : True := True.intro
theorem pre.tw17192289591452548625 : True := True.intro
theorem pre.tw432365653966929425 : True := True.intro
theorem pre.tw8849437869459486225 : True := True.intro
theorem pre.tw5266637067232992817 : True := True.intro
theorem pre.tw1055010767194267185 : True := True.intro
theorem pre.tw17734956020573880881 : True := True.intro
theorem pre.tw4790012042464554065 : True := True.intro
theorem pre.tw14264263440937572433 : True := True.intro
theorem pre.tw7356358749226224753 : True := True.intro
theorem pre.tw9156404867884491824 : True := True.intro
theorem pre.tw1742064917727244336 : True := True.intro
theorem pre.tw15085706590875683920 : True := True.intro
theorem pre.tw16955193970040925808 : True := True.intro
theorem pre.tw6269669390711385712 : True := True.intro
theorem pre.tw8668380712051365488 : True := True.intro
theorem pre.tw16356258026249024112 : True := True.intro
theorem pre.tw8604574556785426064 : True := True.intro
theorem pre.tw3598872936601342608 : True := True.intro
theorem pre.tw2135395566723304624 : True := True.intro
theorem pre.tw12892530640063160496 : True := True.intro
theorem pre.tw8693615675302136016 : True := True.intro
theorem pre.tw11633105981865070800 : True := True.intro
theorem pre.tw5166659602319229168 : True := True.intro
theorem pre.tw7017631474057952016 : True := True.intro
theorem pre.tw9986362127022586672 : True := True.intro
theorem pre.tw10595136909936200528 : True := True.intro
theorem pre.tw3683170794474659664 : True := True.intro
theorem pre.tw18303793592677590384 : True := True.intro
theorem pre.tw6880618902626868592 : True := True.intro
theorem pre.tw4228536171609662864 : True := True.intro
theorem pre.tw1766197755814933904 : True := True.intro
theorem pre.tw7860042637303181232 : True := True.intro
theorem pre.tw5355663829571668976 : True := True.intro
theorem pre.tw2613131129979847664 : True := True.intro
theorem pre.tw16922158233303799344 : True := True.intro
theorem pre.tw8971172735014433328 : True := True.intro
theorem pre.tw2788031159600099920 : True := True.intro
theorem pre.tw11753392409160705616 : True := True.intro
theorem pre.tw2777659693177547888 : True := True.intro
theorem pre.tw18261271881617719408 : True := True.intro
theorem pre.tw13035063335434418320 : True := True.intro
theorem pre.tw2278650998803375792 : True := True.intro
theorem pre.tw17847231858286083792 : True := True.intro
theorem pre.tw16974940930486780624 : True := True.intro
theorem pre.tw17584723201120542448 : True := True.intro
theorem pre.tw5193417828422076144 : True := True.intro
theorem pre.tw7883659768130254576 : True := True.intro
theorem pre.tw5697517616589319440 : True := True.intro
theorem pre.tw3238825455559127312 : True := True.intro
theorem pre.tw11758077524641469712 : True := True.intro
theorem pre.tw5047565192953588016 : True := True.intro
theorem pre.tw14987421768794858384 : True := True.intro
theorem pre.tw9653654664848861072 : True := True.intro
theorem pre.tw15817732249808690608 : True := True.intro
theorem pre.tw4524728929429271984 : True := True.intro
theorem pre.tw9368977918636527024 : True := True.intro
theorem pre.tw963955837198144976 : True := True.intro
theorem pre.tw7626283930908751344 : True := True.intro
theorem pre.tw11957157485961149456 : True := True.intro
theorem pre.tw5478184916214902787 : True := True.intro
theorem pre.tw613649097202423811 : True := True.intro
theorem pre.tw10377830541963442179 : True := True.intro
theorem pre.tw1938112625633923075 : True := True.intro
theorem pre.tw15099912621073526339 : True := True.intro
theorem pre.tw13100290081491151427 : True := True.intro
theorem pre.tw5398033211745673795 : True := True.intro
theorem pre.tw4935497386197293667 : True := True.intro
theorem pre.tw100536114912122467 : True := True.intro
theorem pre.tw10595995876842595459 : True := True.intro
theorem pre.tw4940251260981941379 : True := True.intro
theorem pre.tw9437469647422977187 : True := True.intro
theorem pre.tw4092598216174424771 : True := True.intro
theorem pre.tw12032198593807189731 : True := True.intro
theorem pre.tw11230457712797583075 : True := True.intro
theorem pre.tw14578400756629170947 : True := True.intro
theorem pre.tw16988344281430669059 : True := True.intro
theorem pre.tw14803079025038964483 : True := True.intro
theorem pre.tw1388392950768542467 : True := True.intro
theorem pre.tw17175783120720925443 : True := True.intro
theorem pre.tw15739856319887069475 : True := True.intro
theorem pre.tw2964030690957646115 : True := True.intro
theorem pre.tw14373161862672516419 : True := True.intro
theorem pre.tw17575634438451317091 : True := True.intro
theorem pre.tw12735148845362196835 : True := True.intro
theorem pre.tw4547582976734680963 : True := True.intro
theorem pre.tw11923149365128336291 : True := True.intro
theorem pre.tw6854594764471789027 : True := True.intro
theorem pre.tw17403846721582215651 : True := True.intro
theorem pre.tw8491664847799163395 : True := True.intro
theorem pre.tw3698359840952056323 : True := True.intro
theorem pre.tw16670818464186363939 : True := True.intro
theorem pre.tw5907532252455070755 : True := True.intro
theorem pre.tw9046123651181431907 : True := True.intro
theorem pre.tw16907699242972169315 : True := True.intro
theorem pre.tw11461522869373599395 : True := True.intro
theorem pre.tw13052570070447355555 : True := True.intro
theorem pre.tw9703462525789014691 : True := True.intro
theorem pre.tw1915078372341893315 : True := True.intro
theorem pre.tw12620920964262414563 : True := True.intro
theorem pre.tw12245503054679290083 : True := True.intro
theorem pre.tw8958877936586338531 : True := True.intro
theorem pre.tw12911597221165645027 : True := True.intro
theorem pre.tw3126246302302160131 : True := True.intro
theorem pre.tw16553697610188131587 : True := True.intro
theorem pre.tw17890615745038631747 : True := True.intro
theorem pre.tw14127506748201453379 : True := True.intro
theorem pre.tw9310942424863611715 : True := True.intro
theorem pre.tw5455096484680415043 : True := True.intro
theorem pre.tw15426856429925920611 : True := True.intro
theorem pre.tw9077166887803032515 : True := True.intro
theorem pre.tw2774492708459208643 : True := True.intro
theorem pre.tw8102847431430434787 : True := True.intro
theorem pre.tw1477849350410734466 : True := True.intro
theorem pre.tw4507596864613656482 : True := True.intro
theorem pre.tw13946240116488683458 : True := True.intro
theorem pre.tw17691607215188692450 : True := True.intro
theorem pre.tw17380948657782939138 : True := True.intro
theorem pre.tw9923621095765359138 : True := True.intro
theorem pre.tw14523543243995232802 : True := True.intro
theorem pre.tw3816608331984951362 : True := True.intro
theorem pre.tw16385662776622174274 : True := True.intro
theorem pre.tw2517144728480745570 : True := True.intro
theorem pre.tw1935712371259766882 : True := True.intro
theorem pre.tw14424329174526904418 : True := True.intro
theorem pre.tw5602535122436834978 : True := True.intro
theorem pre.tw3586768670687455938 : True := True.intro
theorem pre.tw11811571531916966114 : True := True.intro
theorem pre.tw20012689587379426 : True := True.intro
theorem pre.tw11529456296959646946 : True := True.intro
theorem pre.tw2754587615830807778 : True := True.intro
theorem pre.tw1880677575873957090 : True := True.intro
theorem pre.tw15816960475200391426 : True := True.intro
theorem pre.tw13344493792171196674 : True := True.intro
theorem pre.tw9703513402333686018 : True := True.intro
theorem pre.tw10651393269742579970 : True := True.intro
theorem pre.tw3545894849836704578 : True := True.intro
theorem pre.tw2184663591715748674 : True := True.intro
theorem pre.tw10214170705255297890 : True := True.intro
theorem pre.tw13170486519227446114 : True := True.intro
theorem pre.tw9704405734240544610 : True := True.intro
theorem pre.tw5244905115107318178 : True := True.intro
theorem pre.tw7207544956905036194 : True := True.intro
theorem pre.tw10479270131694017986 : True := True.intro
theorem pre.tw9727081030507008450 : True := True.intro
theorem pre.tw14694444236778943458 : True := True.intro
theorem pre.tw1525133055729116130 : True := True.intro
theorem pre.tw17928716270399912962 : True := True.intro
theorem pre.tw13484788866508252162 : True := True.intro
theorem pre.tw6221736015357259778 : True := True.intro
theorem pre.tw13470531409523548162 : True := True.intro
theorem pre.tw12916740970526815234 : True := True.intro
theorem pre.tw12048325295029957666 : True := True.intro
theorem pre.tw16595317990688837186 : True := True.intro
theorem pre.tw15930539308222328418 : True := True.intro
theorem pre.tw9813558697894420066 : True := True.intro
theorem pre.tw14734537306121212514 : True := True.intro
theorem pre.tw3443545842548806786 : True := True.intro
theorem pre.tw11034542053584548578 : True := True.intro
theorem pre.tw2842872710257853218 : True := True.intro
theorem pre.tw11438638083788782370 : True := True.intro
theorem pre.tw10871680377755111202 : True := True.intro
theorem pre.tw4261347786956389698 : True := True.intro
theorem pre.tw8967918539570935106 : True := True.intro
theorem pre.tw1918992425544525154 : True := True.intro
theorem pre.tw9960411134837996781 : True := True.intro
theorem pre.tw5776280039435079949 : True := True.intro
theorem pre.tw13415472543158664461 : True := True.intro
theorem pre.tw12924829105985588045 : True := True.intro
theorem pre.tw14073895869645374317 : True := True.intro
theorem pre.tw902688873314958189 : True := True.intro
theorem pre.tw4112391087248823181 : True := True.intro
theorem pre.tw13689614426902565773 : True := True.intro
theorem pre.tw10552663974184307149 : True := True.intro
theorem pre.tw4759632596902430157 : True := True.intro
theorem pre.tw10385232844226180077 : True := True.intro
theorem pre.tw12802469222119508973 : True := True.intro
theorem pre.tw753809067951753261 : True := True.intro
theorem pre.tw7160938043029589037 : True := True.intro
theorem pre.tw16204587106354652749 : True := True.intro
theorem pre.tw5202883365582664301 : True := True.intro
theorem pre.tw16114778395578474093 : True := True.intro
theorem pre.tw5059577773157273229 : True := True.intro
theorem pre.tw5074168925172748461 : True := True.intro
theorem pre.tw4551689093000495277 : True := True.intro
theorem pre.tw12157508429533811917 : True := True.intro
theorem pre.tw11765175075885415629 : True := True.intro
theorem pre.tw1053311080622659309 : True := True.intro
theorem pre.tw2918126098064301837 : True := True.intro
theorem pre.tw9196332826575262477 : True := True.intro
theorem pre.tw10534161309028908813 : True := True.intro
theorem pre.tw1428902514289719085 : True := True.intro
theorem pre.tw13848211747868775213 : True := True.intro
theorem pre.tw7891229438007696717 : True := True.intro
theorem pre.tw10268546273915966797 : True := True.intro
theorem pre.tw9688062778676560237 : True := True.intro
theorem pre.tw18017440786359914861 : True := True.intro
theorem pre.tw11986560988791811437 : True := True.intro
theorem pre.tw357837899431342445 : True := True.intro
theorem pre.tw715579886687588749 : True := True.intro
theorem pre.tw4596555399596248461 : True := True.intro
theorem pre.tw3211104889071755661 : True := True.intro
theorem pre.tw9397795230576269229 : True := True.intro
theorem pre.tw16141282551637045197 : True := True.intro
theorem pre.tw4079343282707439085 : True := True.intro
theorem pre.tw16659198968363500013 : True := True.intro
theorem pre.tw12906079656278746605 : True := True.intro
theorem pre.tw12198566636600859181 : True := True.intro
theorem pre.tw16044712414301811245 : True := True.intro
theorem pre.tw2848631647480743469 : True := True.intro
theorem pre.tw10474366371692108333 : True := True.intro
theorem pre.tw8848583890026683949 : True := True.intro
theorem pre.tw225036282767875149 : True := True.intro
theorem pre.tw12087763072070063181 : True := True.intro
theorem pre.tw1556803065910558797 : True := True.intro
theorem pre.tw11300505084417334381 : True := True.intro
theorem pre.tw6676459687323132013 : True := True.intro
theorem pre.tw2565759218785961101 : True := True.intro
theorem pre.tw9585574375358907533 : True := True.intro
theorem pre.tw9016614729545533581 : True := True.intro
theorem pre.tw7326517428678220876 : True := True.intro
theorem pre.tw1810718439424080492 : True := True.intro
theorem pre.tw14851077289853753996 : True := True.intro
theorem pre.tw988818030244401804 : True := True.intro
theorem pre.tw15463948835950050956 : True := True.intro
theorem pre.tw11932129718846360748 : True := True.intro
theorem pre.tw5066682469208869036 : True := True.intro
theorem pre.tw13600952052009067692 : True := True.intro
theorem pre.tw6003148280703725740 : True := True.intro
theorem pre.tw5384627976807496460 : True := True.intro
theorem pre.tw5221419542630121228 : True := True.intro
theorem pre.tw15393801131321587500 : True := True.intro
theorem pre.tw18408265066960375596 : True := True.intro
theorem pre.tw4443412882828441420 : True := True.intro
theorem pre.tw8241668510432680780 : True := True.intro
theorem pre.tw18209300690413468492 : True := True.intro
theorem pre.tw14187096174780803468 : True := True.intro
theorem pre.tw14241329898243053964 : True := True.intro
theorem pre.tw18372714060793279884 : True := True.intro
theorem pre.tw7735966523173545900 : True := True.intro
theorem pre.tw15694542136349322156 : True := True.intro
theorem pre.tw6675319706030690220 : True := True.intro
theorem pre.tw729722208551817196 : True := True.intro
theorem pre.tw2233476942677719020 : True := True.intro
theorem pre.tw5619094615095328300 : True := True.intro
theorem pre.tw2885697371904594476 : True := True.intro
theorem pre.tw18168419730881213004 : True := True.intro
theorem pre.tw17289399844923039884 : True := True.intro
theorem pre.tw11594203139089587340 : True := True.intro
theorem pre.tw11118908888792543372 : True := True.intro
theorem pre.tw11953342735465494188 : True := True.intro
theorem pre.tw12249073451849169580 : True := True.intro
theorem pre.tw6560061165662266060 : True := True.intro
theorem pre.tw8613034163577122540 : True := True.intro
theorem pre.tw14119733988096445164 : True := True.intro
theorem pre.tw10354020736516771564 : True := True.intro
theorem pre.tw2222166983197115660 : True := True.intro
theorem pre.tw11263474809932559628 : True := True.intro
theorem pre.tw8979024993436518668 : True := True.intro
theorem pre.tw128271790224539980 : True := True.intro
theorem pre.tw555161917568744780 : True := True.intro
theorem pre.tw6513386720310766444 : True := True.intro
theorem pre.tw12016745881008553868 : True := True.intro
theorem pre.tw5128900906382097292 : True := True.intro
theorem pre.tw17975397014040851884 : True := True.intro
theorem pre.tw2814736173271823788 : True := True.intro
theorem pre.tw958921703181006252 : True := True.intro
theorem pre.tw15552399771439246796 : True := True.intro
theorem pre.tw783320152698599884 : True := True.intro
theorem pre.tw17101557958533928396 : True := True.intro
theorem pre.tw4163574934622178527 : True := True.intro
theorem pre.tw5930779091553256703 : True := True.intro
theorem pre.tw2745090213725550367 : True := True.intro
theorem pre.tw4739598053846629151 : True := True.intro
theorem pre.tw9920348721533611807 : True := True.intro
theorem pre.tw6075700903378317119 : True := True.intro
theorem pre.tw4978513362228507487 : True := True.intro
theorem pre.tw9144812790852732767 : True := True.intro
theorem pre.tw8679326985031257535 : True := True.intro
theorem pre.tw4278310588656508351 : True := True.intro
theorem pre.tw10160689015674918879 : True := True.intro
theorem pre.tw9779635316770955263 : True := True.intro
theorem pre.tw1381598868632144415 : True := True.intro
theorem pre.tw13892871159302644255 : True := True.intro
theorem pre.tw11954685131505850943 : True := True.intro
theorem pre.tw1880385009438505567 : True := True.intro
theorem pre.tw15380265510876874335 : True := True.intro
theorem pre.tw17310354473959527007 : True := True.intro
theorem pre.tw10436104786092406911 : True := True.intro
theorem pre.tw10341271326049373375 : True := True.intro
theorem pre.tw2077518209377716415 : True := True.intro
theorem pre.tw2500004932677942463 : True := True.intro
theorem pre.tw7422724931475034879 : True := True.intro
theorem pre.tw3276991065608331007 : True := True.intro
theorem pre.tw6431940885281073439 : True := True.intro
theorem pre.tw9932970980919662879 : True := True.intro
theorem pre.tw6928038487721690399 : True := True.intro
theorem pre.tw16235599445645706559 : True := True.intro
theorem pre.tw13247057605544973631 : True := True.intro
theorem pre.tw1331342588559043935 : True := True.intro
theorem pre.tw1612168810433706335 : True := True.intro
theorem pre.tw13149247480289646463 : True := True.intro
theorem pre.tw7126941902127149983 : True := True.intro
theorem pre.tw182169349035791263 : True := True.intro
theorem pre.tw5823642038413537183 : True := True.intro
theorem pre.tw14288677875305380767 : True := True.intro
theorem pre.tw3487457399481458623 : True := True.intro
theorem pre.tw6917431718488953791 : True := True.intro
theorem pre.tw3958933090512765407 : True := True.intro
theorem pre.tw15617451027784803807 : True := True.intro
theorem pre.tw1711919895552279647 : True := True.intro
theorem pre.tw15955898941855395487 : True := True.intro
theorem pre.tw17293074298059236926 : True := True.intro
theorem pre.tw9451190816402251326 : True := True.intro
theorem pre.tw6850214725186789534 : True := True.intro
theorem pre.tw9979279666854839454 : True := True.intro
theorem pre.tw16710223607702020254 : True := True.intro
theorem pre.tw12395939072158320798 : True := True.intro
theorem pre.tw11400883596515667134 : True := True.intro
theorem pre.tw15881559981882576606 : True := True.intro
theorem pre.tw4180212200917405438 : True := True.intro
theorem pre.tw6003994206046854942 : True := True.intro
theorem pre.tw10060925545655495454 : True := True.intro
theorem pre.tw8738726323652034878 : True := True.intro
theorem pre.tw9878956215537487230 : True := True.intro
theorem pre.tw13435388749989266814 : True := True.intro
theorem pre.tw5366993055663880574 : True := True.intro
theorem pre.tw12339480835004255134 : True := True.intro
theorem pre.tw12028831614483577758 : True := True.intro
theorem pre.tw4221324694844620702 : True := True.intro
theorem pre.tw14822342622013927358 : True := True.intro
theorem pre.tw3635469649078493662 : True := True.intro
theorem pre.tw6673028381792109022 : True := True.intro
theorem pre.tw15600169564686825950 : True := True.intro
theorem pre.tw1583382154546041342 : True := True.intro
theorem pre.tw13698935975677645310 : True := True.intro
theorem pre.tw11032600069652792862 : True := True.intro
theorem pre.tw8890519190517238846 : True := True.intro
theorem pre.tw14257271542849060926 : True := True.intro
theorem pre.tw15580508087115572286 : True := True.intro
theorem pre.tw7963061007698343998 : True := True.intro
theorem pre.tw5164411530307489886 : True := True.intro
theorem pre.tw1731627986138149982 : True := True.intro
theorem pre.tw1843974250403172478 : True := True.intro
theorem pre.tw9246154449851462782 : True := True.intro
theorem pre.tw8937594253423355006 : True := True.intro
theorem pre.tw3065977391785314974 : True := True.intro
theorem pre.tw7273036590618210974 : True := True.intro
theorem pre.tw8246637743790399134 : True := True.intro
theorem pre.tw1980745381023324830 : True := True.intro
theorem pre.tw13709831323023866558 : True := True.intro
theorem pre.tw14105473076754830558 : True := True.intro
theorem pre.tw12757524794564246782 : True := True.intro
theorem pre.tw17184020507389766942 : True := True.intro
theorem pre.tw2459739903180529950 : True := True.intro
theorem pre.tw3128941693003107134 : True := True.intro
theorem pre.tw8976770520505571742 : True := True.intro
theorem pre.tw18266409362745347038 : True := True.intro
theorem pre.tw18396492956959001598 : True := True.intro
theorem pre.tw16659595808733275134 : True := True.intro
theorem pre.tw4586548179065831454 : True := True.intro
theorem pre.tw76359695091385737 : True := True.intro
theorem pre.tw738862915707865001 : True := True.intro
theorem pre.tw9263506234774386633 : True := True.intro
theorem pre.tw4903669738495305673 : True := True.intro
theorem pre.tw5848396929842467785 : True := True.intro
theorem pre.tw666779833985780681 : True := True.intro
theorem pre.tw5448057842174302729 : True := True.intro
theorem pre.tw18012606532544133673 : True := True.intro
theorem pre.tw313251637198591529 : True := True.intro
theorem pre.tw2469931064995527209 : True := True.intro
theorem pre.tw12046991102449378377 : True := True.intro
theorem pre.tw3299415906291174473 : True := True.intro
theorem pre.tw4638652970667008073 : True := True.intro
theorem pre.tw8242971309554217065 : True := True.intro
theorem pre.tw1392559576946916457 : True := True.intro
theorem pre.tw12808010188113370249 : True := True.intro
theorem pre.tw11677559093298767529 : True := True.intro
theorem pre.tw4183111334748428969 : True := True.intro
theorem pre.tw11889277597654661385 : True := True.intro
theorem pre.tw4661515889442400521 : True := True.intro
theorem pre.tw9446406540844208393 : True := True.intro
theorem pre.tw14694388895970808105 : True := True.intro
theorem pre.tw17748181396735127369 : True := True.intro
theorem pre.tw1375944050379534185 : True := True.intro
theorem pre.tw787409447307325289 : True := True.intro
theorem pre.tw6377737411031894889 : True := True.intro
theorem pre.tw16393001848388426633 : True := True.intro
theorem pre.tw3924729771495211433 : True := True.intro
theorem pre.tw7395695533081104841 : True := True.intro
theorem pre.tw16675356098287430121 : True := True.intro
theorem pre.tw17150388317795017769 : True := True.intro
theorem pre.tw8352401617919346729 : True := True.intro
theorem pre.tw7204777177360874537 : True := True.intro
theorem pre.tw1218163486614121513 : True := True.intro
theorem pre.tw10770954103122044489 : True := True.intro
theorem pre.tw10376024088575306313 : True := True.intro
theorem pre.tw8351159328186743369 : True := True.intro
theorem pre.tw16720885141010555465 : True := True.intro
theorem pre.tw8889418112732994121 : True := True.intro
theorem pre.tw4762499114126944425 : True := True.intro
theorem pre.tw4029711514686348457 : True := True.intro
theorem pre.tw1436177295616357545 : True := True.intro
theorem pre.tw17471810042693137609 : True := True.intro
theorem pre.tw14059627306161929417 : True := True.intro
theorem pre.tw8642079473469527273 : True := True.intro
theorem pre.tw14914381427391193865 : True := True.intro
theorem pre.tw8941298748949249833 : True := True.intro
theorem pre.tw6447909932326314793 : True := True.intro
theorem pre.tw16401728608028493609 : True := True.intro
theorem pre.tw2859612391817784105 : True := True.intro
theorem pre.tw5223837364136979785 : True := True.intro
theorem pre.tw15097714241852713704 : True := True.intro
theorem pre.tw2744258353540139272 : True := True.intro
theorem pre.tw6274992009312302344 : True := True.intro
theorem pre.tw17189094643506328872 : True := True.intro
theorem pre.tw6294492408904186152 : True := True.intro
theorem pre.tw6542087770131136840 : True := True.intro
theorem pre.tw6825433931564435784 : True := True.intro
theorem pre.tw1267424286771236712 : True := True.intro
theorem pre.tw17969594984981264296 : True := True.intro
theorem pre.tw830913234662066632 : True := True.intro
theorem pre.tw10521005293267105256 : True := True.intro
theorem pre.tw14525095475503359016 : True := True.intro
theorem pre.tw16160812919127625800 : True := True.intro
theorem pre.tw11745344835587080264 : True := True.intro
theorem pre.tw9944305595530626120 : True := True.intro
theorem pre.tw7536131857669596808 : True := True.intro
theorem pre.tw4015157017199355080 : True := True.intro
theorem pre.tw2495120287079948488 : True := True.intro
theorem pre.tw13015544396376169672 : True := True.intro
theorem pre.tw2439383093971663080 : True := True.intro
theorem pre.tw13616477816403820776 : True := True.intro
theorem pre.tw16246460572468381448 : True := True.intro
theorem pre.tw7988548662555494152 : True := True.intro
theorem pre.tw10859201035828382472 : True := True.intro
theorem pre.tw2087420961123856200 : True := True.intro
theorem pre.tw4812433557987726152 : True := True.intro
theorem pre.tw14309574538361714504 : True := True.intro
theorem pre.tw3659505315908378984 : True := True.intro
theorem pre.tw16947778741813957000 : True := True.intro
theorem pre.tw16291387719975544200 : True := True.intro
theorem pre.tw2380388503238089128 : True := True.intro
theorem pre.tw6734301268319392168 : True := True.intro
theorem pre.tw13900625816610198472 : True := True.intro
theorem pre.tw10700938019785334728 : True := True.intro
theorem pre.tw16347192978191760904 : True := True.intro
theorem pre.tw339990320419492360 : True := True.intro
theorem pre.tw10895770716772427272 : True := True.intro
theorem pre.tw3806183327044169256 : True := True.intro
theorem pre.tw13034922294385805896 : True := True.intro
theorem pre.tw15023164799912565864 : True := True.intro
theorem pre.tw818232177843085448 : True := True.intro
theorem pre.tw3234502411318673576 : True := True.intro
theorem pre.tw10859964062239681704 : True := True.intro
theorem pre.tw2102571944273475752 : True := True.intro
theorem pre.tw5751649059592442568 : True := True.intro
theorem pre.tw15175475501146137275 : True := True.intro
theorem pre.tw6539991348792089275 : True := True.intro
theorem pre.tw5227054416681203387 : True := True.intro
theorem pre.tw5415688602520687291 : True := True.intro
theorem pre.tw2662463488433125595 : True := True.intro
theorem pre.tw7277097213369095387 : True := True.intro
theorem pre.tw1816548256436942619 : True := True.intro
theorem pre.tw8168362571875869499 : True := True.intro
theorem pre.tw5661442238092121947 : True := True.intro
theorem pre.tw8127042229925106523 : True := True.intro
theorem pre.tw15002153583677320571 : True := True.intro
theorem pre.tw6445539577374903675 : True := True.intro
theorem pre.tw6500662404758613371 : True := True.intro
theorem pre.tw8000212246380412315 : True := True.intro
theorem pre.tw8162946741011869115 : True := True.intro
theorem pre.tw16647274296402202043 : True := True.intro
theorem pre.tw1381177096154041307 : True := True.intro
theorem pre.tw13080543910416442363 : True := True.intro
theorem pre.tw17479878862024092187 : True := True.intro
theorem pre.tw8804767746154035739 : True := True.intro
theorem pre.tw17326184535616480795 : True := True.intro
theorem pre.tw16941557986670126651 : True := True.intro
theorem pre.tw3034816643929496123 : True := True.intro
theorem pre.tw973919336004775515 : True := True.intro
theorem pre.tw626746804370703963 : True := True.intro
theorem pre.tw9060540855979786363 : True := True.intro
theorem pre.tw9887040129438780539 : True := True.intro
theorem pre.tw1050751784853016699 : True := True.intro
theorem pre.tw2813507446723590299 : True := True.intro
theorem pre.tw11034143361812340891 : True := True.intro
theorem pre.tw2663479996536123547 : True := True.intro
theorem pre.tw5137235707443594395 : True := True.intro
theorem pre.tw8843835310512011003 : True := True.intro
theorem pre.tw1419325390564040443 : True := True.intro
theorem pre.tw11354398403944260891 : True := True.intro
theorem pre.tw17521577237541031259 : True := True.intro
theorem pre.tw9300774122113367387 : True := True.intro
theorem pre.tw5513868021730663771 : True := True.intro
theorem pre.tw5939999858314782619 : True := True.intro
theorem pre.tw14168891044517339067 : True := True.intro
theorem pre.tw17909365347995515355 : True := True.intro
theorem pre.tw16192610898035653115 : True := True.intro
theorem pre.tw1509030823055947803 : True := True.intro
theorem pre.tw10199723904287268891 : True := True.intro
theorem pre.tw13548176644264445979 : True := True.intro
theorem pre.tw11506506905472830491 : True := True.intro
theorem pre.tw5521147322907868219 : True := True.intro
theorem pre.tw4433762224379270203 : True := True.intro
theorem pre.tw14017024178160117819 : True := True.intro
theorem pre.tw13442709088098003003 : True := True.intro
theorem pre.tw8788772280634470491 : True := True.intro
theorem pre.tw7302273971490603643 : True := True.intro
theorem pre.tw8089685399335694971 : True := True.intro
theorem pre.tw2382165177177969307 : True := True.intro
theorem pre.tw6988980690245616283 : True := True.intro
theorem pre.tw13943390954771151515 : True := True.intro
theorem pre.tw3045530847542571578 : True := True.intro
theorem pre.tw16850265563521182266 : True := True.intro
theorem pre.tw14149308490209958490 : True := True.intro
theorem pre.tw9272758676093940314 : True := True.intro
theorem pre.tw3101395819524736154 : True := True.intro
theorem pre.tw4148498763504297146 : True := True.intro
theorem pre.tw3152597517730183354 : True := True.intro
theorem pre.tw17815357482174425850 : True := True.intro
theorem pre.tw9597240028889137914 : True := True.intro
theorem pre.tw12163330781154545402 : True := True.intro
theorem pre.tw1706207262297114938 : True := True.intro
theorem pre.tw708519390391298426 : True := True.intro
theorem pre.tw16803924907866661242 : True := True.intro
theorem pre.tw9477719618509260154 : True := True.intro
theorem pre.tw14372104517039260570 : True := True.intro
theorem pre.tw9092608996130779610 : True := True.intro
theorem pre.tw3713572877722607098 : True := True.intro
theorem pre.tw12343714060534468730 : True := True.intro
theorem pre.tw4924673744440154234 : True := True.intro
theorem pre.tw949880452649620122 : True := True.intro
theorem pre.tw6371410476841198266 : True := True.intro
theorem pre.tw8067598691166824666 : True := True.intro
theorem pre.tw4782412935597522170 : True := True.intro
theorem pre.tw16414874712827415834 : True := True.intro
theorem pre.tw16697864762408875290 : True := True.intro
theorem pre.tw8732443699851558170 : True := True.intro
theorem pre.tw2113881155398430554 : True := True.intro
theorem pre.tw7904864780523521914 : True := True.intro
theorem pre.tw15717269449986142074 : True := True.intro
theorem pre.tw8396012731786758554 : True := True.intro
theorem pre.tw11269430218553393594 : True := True.intro
theorem pre.tw11155972076217092538 : True := True.intro
theorem pre.tw10346611183579806682 : True := True.intro
theorem pre.tw537238339658418170 : True := True.intro
theorem pre.tw12666478658109491194 : True := True.intro
theorem pre.tw1365335485669957989 : True := True.intro
theorem pre.tw15977509395038019941 : True := True.intro
theorem pre.tw15745199461614438789 : True := True.intro
theorem pre.tw13735495403218313605 : True := True.intro
theorem pre.tw14996427945809601925 : True := True.intro
theorem pre.tw4065645217706180997 : True := True.intro
theorem pre.tw13366132648805191045 : True := True.intro
theorem pre.tw6260500824604228517 : True := True.intro
theorem pre.tw13963841316474985381 : True := True.intro
theorem pre.tw10300065165228415973 : True := True.intro
theorem pre.tw13488149460351848965 : True := True.intro
theorem pre.tw1718082349266902533 : True := True.intro
theorem pre.tw12638590457646532101 : True := True.intro
theorem pre.tw10866012406285087269 : True := True.intro
theorem pre.tw10712982725284699685 : True := True.intro
theorem pre.tw3045404778568368197 : True := True.intro
theorem pre.tw12635453603838736453 : True := True.intro
theorem pre.tw7349111018787667013 : True := True.intro
theorem pre.tw5409162607106835557 : True := True.intro
theorem pre.tw804446109022291045 : True := True.intro
theorem pre.tw17473244442497774725 : True := True.intro
theorem pre.tw13941171581996578469 : True := True.intro
theorem pre.tw17470823787616965317 : True := True.intro
theorem pre.tw14891704134584747269 : True := True.intro
theorem pre.tw11965309059458187525 : True := True.intro
theorem pre.tw7706886494112035077 : True := True.intro
theorem pre.tw8568890297160191813 : True := True.intro
theorem pre.tw17814703549875807077 : True := True.intro
theorem pre.tw14056285423682811301 : True := True.intro
theorem pre.tw1932385215699409349 : True := True.intro
theorem pre.tw12743329951085562341 : True := True.intro
theorem pre.tw17043638945107567077 : True := True.intro
theorem pre.tw9014625553874275333 : True := True.intro
theorem pre.tw13487792419330167813 : True := True.intro
theorem pre.tw12696001737011053605 : True := True.intro
theorem pre.tw9670930749690490437 : True := True.intro
theorem pre.tw18397500480639444549 : True := True.intro
theorem pre.tw16988107173822111301 : True := True.intro
theorem pre.tw7951138588076876389 : True := True.intro
theorem pre.tw9846574807404286597 : True := True.intro
theorem pre.tw2276133260379123877 : True := True.intro
theorem pre.tw168122648237535461 : True := True.intro
theorem pre.tw1908948140803626757 : True := True.intro
theorem pre.tw14363037284935606021 : True := True.intro
theorem pre.tw14494989114586980133 : True := True.intro
theorem pre.tw13905961451963469605 : True := True.intro
theorem pre.tw2967011648279057189 : True := True.intro
theorem pre.tw17715208338130414308 : True := True.intro
theorem pre.tw2602320316240105796 : True := True.intro
theorem pre.tw6555306914393104292 : True := True.intro
theorem pre.tw1132849628662760356 : True := True.intro
theorem pre.tw9070740133883002340 : True := True.intro
theorem pre.tw14792417557875952100 : True := True.intro
theorem pre.tw3954784675154510308 : True := True.intro
theorem pre.tw9044076004278445092 : True := True.intro
theorem pre.tw13076286950413053988 : True := True.intro
theorem pre.tw6427279918057114212 : True := True.intro
theorem pre.tw7261142406373334660 : True := True.intro
theorem pre.tw11810333376465606308 : True := True.intro
theorem pre.tw2671165915911625380 : True := True.intro
theorem pre.tw13583462540784997028 : True := True.intro
theorem pre.tw12403408695994014372 : True := True.intro
theorem pre.tw9765646857105990852 : True := True.intro
theorem pre.tw5441333855365609700 : True := True.intro
theorem pre.tw14222043952821583076 : True := True.intro
theorem pre.tw11896213755555250980 : True := True.intro
theorem pre.tw13461813250361580324 : True := True.intro
theorem pre.tw9912212083295048516 : True := True.intro
theorem pre.tw8357753985608653636 : True := True.intro
theorem pre.tw5470754354627246916 : True := True.intro
theorem pre.tw13621574091515486564 : True := True.intro
theorem pre.tw1050279247777144196 : True := True.intro
theorem pre.tw12627699527021123972 : True := True.intro
theorem pre.tw3614691938728877476 : True := True.intro
theorem pre.tw14506536826029829540 : True := True.intro
theorem pre.tw4734894285801456580 : True := True.intro
theorem pre.tw12140508414846306244 : True := True.intro
theorem pre.tw17532475710381882340 : True := True.intro
theorem pre.tw10324655390490961412 : True := True.intro
theorem pre.tw2716527833591756324 : True := True.intro
theorem pre.tw10106604192239068708 : True := True.intro
theorem pre.tw2171069664736829988 : True := True.intro
theorem pre.tw18031882620347071044 : True := True.intro
theorem pre.tw15011868394727583844 : True := True.intro
theorem pre.tw10569307979143828612 : True := True.intro
theorem pre.tw9071187146514248836 : True := True.intro
theorem pre.tw1649871722438950020 : True := True.intro
theorem pre.tw14322180556401904804 : True := True.intro
theorem pre.tw8637241570231538372 : True := True.intro
theorem pre.tw14836720871340471991 : True := True.intro
theorem pre.tw5002713343836837559 : True := True.intro
theorem pre.tw8353174252018703031 : True := True.intro
theorem pre.tw6751491554914456791 : True := True.intro
theorem pre.tw7411462724947584215 : True := True.intro
theorem pre.tw14074249629001789687 : True := True.intro
theorem pre.tw862385358779523319 : True := True.intro
theorem pre.tw7726071353200729335 : True := True.intro
theorem pre.tw13109577333805528855 : True := True.intro
theorem pre.tw975930898488034103 : True := True.intro
theorem pre.tw4957770225494088503 : True := True.intro
theorem pre.tw3891434181599658359 : True := True.intro
theorem pre.tw10451651707047291255 : True := True.intro
theorem pre.tw485322889977712055 : True := True.intro
theorem pre.tw11903547837533943223 : True := True.intro
theorem pre.tw13549925749545228247 : True := True.intro
theorem pre.tw17461140507956929495 : True := True.intro
theorem pre.tw3819673520799838199 : True := True.intro
theorem pre.tw4340687931852339191 : True := True.intro
theorem pre.tw4302517107581622839 : True := True.intro
theorem pre.tw7644422859356386903 : True := True.intro
theorem pre.tw15324775349152349783 : True := True.intro
theorem pre.tw6349204711591002263 : True := True.intro
theorem pre.tw10664566020980477111 : True := True.intro
theorem pre.tw4235505257369257143 : True := True.intro
theorem pre.tw18286534126450428631 : True := True.intro
theorem pre.tw14805239085488668375 : True := True.intro
theorem pre.tw4352444133749846743 : True := True.intro
theorem pre.tw14963151153127715543 : True := True.intro
theorem pre.tw14800330306941372119 : True := True.intro
theorem pre.tw764621332595082999 : True := True.intro
theorem pre.tw15806662034508665591 : True := True.intro
theorem pre.tw12231736212359940375 : True := True.intro
theorem pre.tw4737872818598150487 : True := True.intro
theorem pre.tw573365828339954551 : True := True.intro
theorem pre.tw7231771453483003767 : True := True.intro
theorem pre.tw4127355312726007255 : True := True.intro
theorem pre.tw9913060184544408023 : True := True.intro
theorem pre.tw12635355410463377879 : True := True.intro
theorem pre.tw14137574008967909879 : True := True.intro
theorem pre.tw9331111448233912823 : True := True.intro
theorem pre.tw6812437642215378423 : True := True.intro
theorem pre.tw10332121313407737879 : True := True.intro
theorem pre.tw12466427740749891607 : True := True.intro
theorem pre.tw1152640119201464343 : True := True.intro
theorem pre.tw18380667163949615127 : True := True.intro
theorem pre.tw18394481256774613047 : True := True.intro
theorem pre.tw18134662999256326199 : True := True.intro
theorem pre.tw16757331061274693174 : True := True.intro
theorem pre.tw10244170375512877654 : True := True.intro
theorem pre.tw14684638337935352438 : True := True.intro
theorem pre.tw5201802290888205942 : True := True.intro
theorem pre.tw13943675319116771510 : True := True.intro
theorem pre.tw12672129048176733910 : True := True.intro
theorem pre.tw936819345795024598 : True := True.intro
theorem pre.tw15833429105430989590 : True := True.intro
theorem pre.tw5902025878350891318 : True := True.intro
theorem pre.tw8288413980342959478 : True := True.intro
theorem pre.tw1007203705049462 : True := True.intro
theorem pre.tw9189583266170533782 : True := True.intro
theorem pre.tw11334770405933746102 : True := True.intro
theorem pre.tw14567950999838706614 : True := True.intro
theorem pre.tw16728566025890376150 : True := True.intro
theorem pre.tw309907270049370614 : True := True.intro
theorem pre.tw11392388483772708374 : True := True.intro
theorem pre.tw3116307664250930262 : True := True.intro
theorem pre.tw4177519479694688342 : True := True.intro
theorem pre.tw10235402276666605686 : True := True.intro
theorem pre.tw7400269343242944630 : True := True.intro
theorem pre.tw3570012215284370102 : True := True.intro
theorem pre.tw10680018796396808406 : True := True.intro
theorem pre.tw8160677010402192598 : True := True.intro
theorem pre.tw9532337118163597526 : True := True.intro
theorem pre.tw4243143349805754614 : True := True.intro
theorem pre.tw11180316578356752630 : True := True.intro
theorem pre.tw2151503334272312598 : True := True.intro
theorem pre.tw11487181345768856854 : True := True.intro
theorem pre.tw14731213820730695478 : True := True.intro
theorem pre.tw12282353506257945398 : True := True.intro
theorem pre.tw3042635428692435798 : True := True.intro
theorem pre.tw13186452446883194710 : True := True.intro
theorem pre.tw2823696813016516470 : True := True.intro
theorem pre.tw6985649725468701078 : True := True.intro
theorem pre.tw9826914800519078326 : True := True.intro
theorem pre.tw17933358324989782998 : True := True.intro
theorem pre.tw18207913327809527798 : True := True.intro
theorem pre.tw18054487228730905590 : True := True.intro
theorem pre.tw5506941574040760310 : True := True.intro
theorem pre.tw16298401983069543446 : True := True.intro
theorem pre.tw1435139926404093281 : True := True.intro
theorem pre.tw1041868040226089345 : True := True.intro
theorem pre.tw5267369500544136577 : True := True.intro
theorem pre.tw11596631484788246913 : True := True.intro
theorem pre.tw8099255115043700641 : True := True.intro
theorem pre.tw2334385605414298529 : True := True.intro
theorem pre.tw6581473752984794017 : True := True.intro
theorem pre.tw9540451881787832257 : True := True.intro
theorem pre.tw14822576639472447457 : True := True.intro
theorem pre.tw4019139490913728001 : True := True.intro
theorem pre.tw14070749715526512161 : True := True.intro
theorem pre.tw12123020857775900769 : True := True.intro
theorem pre.tw14074538918073405537 : True := True.intro
theorem pre.tw17345469425037299841 : True := True.intro
theorem pre.tw16386524169264736929 : True := True.intro
theorem pre.tw4656899387409892001 : True := True.intro
theorem pre.tw11010053925305994945 : True := True.intro
theorem pre.tw7665305624004349633 : True := True.intro
theorem pre.tw2481131687360087777 : True := True.intro
theorem pre.tw17572142358627720449 : True := True.intro
theorem pre.tw2455701017561258273 : True := True.intro
theorem pre.tw12449027652396106561 : True := True.intro
theorem pre.tw5109685703680726849 : True := True.intro
theorem pre.tw8101054943010728801 : True := True.intro
theorem pre.tw17332867530072160129 : True := True.intro
theorem pre.tw14996713729842689921 : True := True.intro
theorem pre.tw16764630679908878209 : True := True.intro
theorem pre.tw4178467859560743329 : True := True.intro
theorem pre.tw9511713761527470497 : True := True.intro
theorem pre.tw7345904802390395361 : True := True.intro
theorem pre.tw3643970012235126241 : True := True.intro
theorem pre.tw2797847902796357633 : True := True.intro
theorem pre.tw15623545201013393441 : True := True.intro
theorem pre.tw10370835047718428257 : True := True.intro
theorem pre.tw8690145814678164097 : True := True.intro
theorem pre.tw15976964898730137761 : True := True.intro
theorem pre.tw15975126735427803361 : True := True.intro
theorem pre.tw11315198952061354753 : True := True.intro
theorem pre.tw5305195693036384001 : True := True.intro
theorem pre.tw12116949305750460193 : True := True.intro
theorem pre.tw3464597203623758784 : True := True.intro
theorem pre.tw3838912436862252992 : True := True.intro
theorem pre.tw4057370065239209952 : True := True.intro
theorem pre.tw6642467154738232320 : True := True.intro
theorem pre.tw12222363839251142208 : True := True.intro
theorem pre.tw7003772144697771104 : True := True.intro
theorem pre.tw5829174689089804384 : True := True.intro
theorem pre.tw3154597027049535616 : True := True.intro
theorem pre.tw15947781897099108480 : True := True.intro
theorem pre.tw12769283041236451488 : True := True.intro
theorem pre.tw17742343492560187552 : True := True.intro
theorem pre.tw17866359194292120256 : True := True.intro
theorem pre.tw16287443883917843136 : True := True.intro
theorem pre.tw16122329570768576 : True := True.intro
theorem pre.tw8469260897361089248 : True := True.intro
theorem pre.tw14529786052526735072 : True := True.intro
theorem pre.tw12687970955218920160 : True := True.intro
theorem pre.tw6911438020778630912 : True := True.intro
theorem pre.tw4589533950224808704 : True := True.intro
theorem pre.tw5034807592846221600 : True := True.intro
theorem pre.tw14442455351090519328 : True := True.intro
theorem pre.tw13548020901255443744 : True := True.intro
theorem pre.tw12424659754257024320 : True := True.intro
theorem pre.tw12423551895367100736 : True := True.intro
theorem pre.tw1621645141799330112 : True := True.intro
theorem pre.tw8576051430218547040 : True := True.intro
theorem pre.tw8793992610713960320 : True := True.intro
theorem pre.tw14345333686785702336 : True := True.intro
theorem pre.tw13851470909063495136 : True := True.intro
theorem pre.tw5211522501806150112 : True := True.intro
theorem pre.tw7910586513946798592 : True := True.intro
theorem pre.tw13893982933516557376 : True := True.intro
theorem pre.tw18134008095631550528 : True := True.intro
theorem pre.tw7911290680565796448 : True := True.intro
theorem pre.tw14508266658606468704 : True := True.intro
theorem pre.tw6479667033242156640 : True := True.intro
theorem pre.tw8132660780373212800 : True := True.intro
theorem pre.tw6190642223560863360 : True := True.intro
theorem pre.tw14160992568885874336 : True := True.intro
theorem pre.tw6297747122483328672 : True := True.intro
theorem pre.tw4741201554143523008 : True := True.intro
theorem pre.tw13242682572307045600 : True := True.intro
theorem pre.tw4897877934596042976 : True := True.intro
theorem pre.tw9758436893816250624 : True := True.intro
theorem pre.tw12740139926299412736 : True := True.intro
theorem pre.tw6795771658546590496 : True := True.intro
theorem pre.tw13709629628713603872 : True := True.intro
theorem pre.tw16311632848602163008 : True := True.intro
theorem pre.tw9798004240559735616 : True := True.intro
theorem pre.tw3710307822557336384 : True := True.intro
theorem pre.tw17265988084188281184 : True := True.intro
theorem pre.tw13466293695030235520 : True := True.intro
theorem pre.tw17684480322746665843 : True := True.intro
theorem pre.tw16622741442586550131 : True := True.intro
theorem pre.tw230994104176739219 : True := True.intro
theorem pre.tw7864683705302620051 : True := True.intro
theorem pre.tw10012106141780743091 : True := True.intro
theorem pre.tw10330135364243981235 : True := True.intro
theorem pre.tw12814620806448918451 : True := True.intro
theorem pre.tw5648411841952702931 : True := True.intro
theorem pre.tw901342348538121683 : True := True.intro
theorem pre.tw14728520593743619603 : True := True.intro
theorem pre.tw10628851183643663411 : True := True.intro
theorem pre.tw7910183616561901619 : True := True.intro
theorem pre.tw13663770299932232915 : True := True.intro
theorem pre.tw17565641040590754067 : True := True.intro
theorem pre.tw3648575891802591507 : True := True.intro
theorem pre.tw13035478835877214003 : True := True.intro
theorem pre.tw14430988531489560371 : True := True.intro
theorem pre.tw12616415480560076595 : True := True.intro
theorem pre.tw18037966468984073043 : True := True.intro
theorem pre.tw7331161357265053523 : True := True.intro
theorem pre.tw1616104883979156883 : True := True.intro
theorem pre.tw9474471566382155155 : True := True.intro
theorem pre.tw17630617267946304915 : True := True.intro
theorem pre.tw15081701007088983475 : True := True.intro
theorem pre.tw16658262248085359027 : True := True.intro
theorem pre.tw5208784882748193747 : True := True.intro
theorem pre.tw3498216914695461843 : True := True.intro
theorem pre.tw5888013849374187539 : True := True.intro
theorem pre.tw14782513989035708435 : True := True.intro
theorem pre.tw5490097599452936211 : True := True.intro
theorem pre.tw14308448688533239923 : True := True.intro
theorem pre.tw16370530790747756691 : True := True.intro
theorem pre.tw4633863492942396595 : True := True.intro
theorem pre.tw4095621417596051635 : True := True.intro
theorem pre.tw6641369120139876083 : True := True.intro
theorem pre.tw2956534928768690963 : True := True.intro
theorem pre.tw3073805272684072723 : True := True.intro
theorem pre.tw3616304509355073299 : True := True.intro
theorem pre.tw2033436540801105203 : True := True.intro
theorem pre.tw13031952732370226418 : True := True.intro
theorem pre.tw15590062222815198002 : True := True.intro
theorem pre.tw3168712775038809906 : True := True.intro
theorem pre.tw10937813125016385362 : True := True.intro
theorem pre.tw9028022162147367762 : True := True.intro
theorem pre.tw11586496212289405810 : True := True.intro
theorem pre.tw5405768886218277746 : True := True.intro
theorem pre.tw3985663955315781490 : True := True.intro
theorem pre.tw3858308852377395602 : True := True.intro
theorem pre.tw10065820097824755090 : True := True.intro
theorem pre.tw7704367880845183378 : True := True.intro
theorem pre.tw3659786349806069298 : True := True.intro
theorem pre.tw4768709365369701970 : True := True.intro
theorem pre.tw14414296601980287602 : True := True.intro
theorem pre.tw14682772530079906962 : True := True.intro
theorem pre.tw4313426606285992082 : True := True.intro
theorem pre.tw8747545944148956306 : True := True.intro
theorem pre.tw8945219078104529074 : True := True.intro
theorem pre.tw7896434648195531954 : True := True.intro
theorem pre.tw1226273505432151218 : True := True.intro
theorem pre.tw448653777660628178 : True := True.intro
theorem pre.tw7611312609337616114 : True := True.intro
theorem pre.tw16099292235398574866 : True := True.intro
theorem pre.tw14226640134964682514 : True := True.intro
theorem pre.tw3366478633116120370 : True := True.intro
theorem pre.tw16088505490231711058 : True := True.intro
theorem pre.tw18289560814304889170 : True := True.intro
theorem pre.tw4861743260670268754 : True := True.intro
theorem pre.tw4437661930704623986 : True := True.intro
theorem pre.tw9378975253327373202 : True := True.intro
theorem pre.tw311131404953469842 : True := True.intro
theorem pre.tw7359821091731540882 : True := True.intro
theorem pre.tw16464159067796342706 : True := True.intro
theorem pre.tw16957219126302909362 : True := True.intro
theorem pre.tw14510039751717583794 : True := True.intro
theorem pre.tw18233301200081763826 : True := True.intro
theorem pre.tw14795638731396778482 : True := True.intro
theorem pre.tw17015522334327901714 : True := True.intro
theorem pre.tw12290795513893274130 : True := True.intro
theorem pre.tw2031422686445326450 : True := True.intro
theorem pre.tw13204132764777541746 : True := True.intro
theorem pre.tw4732900055333294738 : True := True.intro
theorem pre.tw9908922978504959666 : True := True.intro
theorem pre.tw3901399216645860050 : True := True.intro
theorem pre.tw9608357915759324882 : True := True.intro
theorem pre.tw5252079301567649490 : True := True.intro
theorem pre.tw7292848239741335250 : True := True.intro
theorem pre.tw17949562512805327570 : True := True.intro
theorem pre.tw6421970070636717085 : True := True.intro
theorem pre.tw4115837655595946589 : True := True.intro
theorem pre.tw520891677801314909 : True := True.intro
theorem pre.tw13575804608552332893 : True := True.intro
theorem pre.tw9762689860934287997 : True := True.intro
theorem pre.tw4351403932569384573 : True := True.intro
theorem pre.tw12020493537897680029 : True := True.intro
theorem pre.tw727630574632525981 : True := True.intro
theorem pre.tw18011092364212159645 : True := True.intro
theorem pre.tw5503929838628110525 : True := True.intro
theorem pre.tw14305945894560222429 : True := True.intro
theorem pre.tw15531861842059954941 : True := True.intro
theorem pre.tw5715059481960323837 : True := True.intro
theorem pre.tw10147320506687663901 : True := True.intro
theorem pre.tw15765317468466231069 : True := True.intro
theorem pre.tw4504360628007150941 : True := True.intro
theorem pre.tw722677297154650493 : True := True.intro
theorem pre.tw1468329308003357053 : True := True.intro
theorem pre.tw563935353248594301 : True := True.intro
theorem pre.tw13717560665382197629 : True := True.intro
theorem pre.tw9419612258197938141 : True := True.intro
theorem pre.tw2430517154415647261 : True := True.intro
theorem pre.tw11928712811439089181 : True := True.intro
theorem pre.tw8453801657454425661 : True := True.intro
theorem pre.tw7621666359613278877 : True := True.intro
theorem pre.tw17661432002627233437 : True := True.intro
theorem pre.tw3028601503876015805 : True := True.intro
theorem pre.tw10265033526920947421 : True := True.intro
theorem pre.tw8426930419104899805 : True := True.intro
theorem pre.tw7254958280653407965 : True := True.intro
theorem pre.tw3511905368337306877 : True := True.intro
theorem pre.tw1529668684993004829 : True := True.intro
theorem pre.tw6592062373767089437 : True := True.intro
theorem pre.tw13864223249207913789 : True := True.intro
theorem pre.tw5388471479421459773 : True := True.intro
theorem pre.tw8827112279831952221 : True := True.intro
theorem pre.tw16931549595122895709 : True := True.intro
theorem pre.tw13670478348920316765 : True := True.intro
theorem pre.tw10892100749236365181 : True := True.intro
theorem pre.tw8632276370970111389 : True := True.intro
theorem pre.tw6805023543848353181 : True := True.intro
theorem pre.tw6036864551922443677 : True := True.intro
theorem pre.tw8892786480854345149 : True := True.intro
theorem pre.tw5846505849995138493 : True := True.intro
theorem pre.tw2358321711337159133 : True := True.intro
theorem pre.tw7599268520643437980 : True := True.intro
theorem pre.tw9173114310563434908 : True := True.intro
theorem pre.tw8155927297578424284 : True := True.intro
theorem pre.tw1461443566422638588 : True := True.intro
theorem pre.tw9285585735885538300 : True := True.intro
theorem pre.tw14598286252872041468 : True := True.intro
theorem pre.tw11936359333785713180 : True := True.intro
theorem pre.tw10131336495827431964 : True := True.intro
theorem pre.tw10328137579054651964 : True := True.intro
theorem pre.tw17772006925962615900 : True := True.intro
theorem pre.tw10680321572971770972 : True := True.intro
theorem pre.tw12978722607897504860 : True := True.intro
theorem pre.tw10753508438639107196 : True := True.intro
theorem pre.tw1542587434356211836 : True := True.intro
theorem pre.tw15585857101969007772 : True := True.intro
theorem pre.tw16154206851424880316 : True := True.intro
theorem pre.tw1044022592839535292 : True := True.intro
theorem pre.tw16357526174112377564 : True := True.intro
theorem pre.tw17617282138065649404 : True := True.intro
theorem pre.tw397799394173604124 : True := True.intro
theorem pre.tw18396756820572536124 : True := True.intro
theorem pre.tw8949266442159996796 : True := True.intro
theorem pre.tw16343437106197866396 : True := True.intro
theorem pre.tw16386126473311694300 : True := True.intro
theorem pre.tw9181459904334332412 : True := True.intro
theorem pre.tw6003080888567865404 : True := True.intro
theorem pre.tw9014133138817995356 : True := True.intro
theorem pre.tw2762386623101491836 : True := True.intro
theorem pre.tw5186095595961538172 : True := True.intro
theorem pre.tw5862319868431322300 : True := True.intro
theorem pre.tw4783138436243215612 : True := True.intro
theorem pre.tw630890353979337980 : True := True.intro
theorem pre.tw10534657183086268220 : True := True.intro
theorem pre.tw17066553753345289020 : True := True.intro
theorem pre.tw6826505971344521020 : True := True.intro
theorem pre.tw14754351091843643196 : True := True.intro
theorem pre.tw5367239546080434524 : True := True.intro
theorem pre.tw6401541412335013212 : True := True.intro
theorem pre.tw9268775662160879964 : True := True.intro
theorem pre.tw18281779819685405052 : True := True.intro
theorem pre.tw9916994512938536316 : True := True.intro
theorem pre.tw13552013634218483567 : True := True.intro
theorem pre.tw8626696496557727599 : True := True.intro
theorem pre.tw9757816771006645295 : True := True.intro
theorem pre.tw10024712792650953775 : True := True.intro
theorem pre.tw15131100484130415663 : True := True.intro
theorem pre.tw136206033447773263 : True := True.intro
theorem pre.tw17086292604079037519 : True := True.intro
theorem pre.tw2624964874534202447 : True := True.intro
theorem pre.tw13760270550381588559 : True := True.intro
theorem pre.tw6967700416870008911 : True := True.intro
theorem pre.tw10914785072680191599 : True := True.intro
theorem pre.tw10832705720884541039 : True := True.intro
theorem pre.tw14839472496755372687 : True := True.intro
theorem pre.tw10804959849600064175 : True := True.intro
theorem pre.tw2121433010276505871 : True := True.intro
theorem pre.tw7791171202496691023 : True := True.intro
theorem pre.tw8724266699420695919 : True := True.intro
theorem pre.tw17170379178109390223 : True := True.intro
theorem pre.tw17628802346911843727 : True := True.intro
theorem pre.tw17468709714731830671 : True := True.intro
theorem pre.tw4253427251858012591 : True := True.intro
theorem pre.tw18285178666739447215 : True := True.intro
theorem pre.tw9129017128894583215 : True := True.intro
theorem pre.tw5408522164310288815 : True := True.intro
theorem pre.tw6102071788167789999 : True := True.intro
theorem pre.tw879533689935515599 : True := True.intro
theorem pre.tw6065968213227419599 : True := True.intro
theorem pre.tw10395154055649308623 : True := True.intro
theorem pre.tw1852255445250600943 : True := True.intro
theorem pre.tw5180935494760848399 : True := True.intro
theorem pre.tw16715185281143411247 : True := True.intro
theorem pre.tw6688510921983178287 : True := True.intro
theorem pre.tw8375137798525536815 : True := True.intro
theorem pre.tw8133479451444782671 : True := True.intro
theorem pre.tw12364946691729189007 : True := True.intro
theorem pre.tw2292370424520030351 : True := True.intro
theorem pre.tw2519616221900194959 : True := True.intro
theorem pre.tw11340543274556822703 : True := True.intro
theorem pre.tw3746140098384834255 : True := True.intro
theorem pre.tw9408043978020154095 : True := True.intro
theorem pre.tw10475632206569705199 : True := True.intro
theorem pre.tw17821831488359237359 : True := True.intro
theorem pre.tw4058091695929495311 : True := True.intro
theorem pre.tw7258630894028731151 : True := True.intro
theorem pre.tw10935119607728559887 : True := True.intro
theorem pre.tw7978306702915065167 : True := True.intro
theorem pre.tw9031810221758150991 : True := True.intro
theorem pre.tw1213182180532150607 : True := True.intro
theorem pre.tw4104475527776342254 : True := True.intro
theorem pre.tw7482685749671856942 : True := True.intro
theorem pre.tw12911352831330216782 : True := True.intro
theorem pre.tw11248624942145940302 : True := True.intro
theorem pre.tw15870251083844579150 : True := True.intro
theorem pre.tw14295398827220868974 : True := True.intro
theorem pre.tw11908628225780200302 : True := True.intro
theorem pre.tw13038373995589623662 : True := True.intro
theorem pre.tw9292474418274483598 : True := True.intro
theorem pre.tw6607847689318590862 : True := True.intro
theorem pre.tw9191124901858762190 : True := True.intro
theorem pre.tw8754895157409667534 : True := True.intro
theorem pre.tw13922664171649334254 : True := True.intro
theorem pre.tw8014292632671916014 : True := True.intro
theorem pre.tw9749564375169400814 : True := True.intro
theorem pre.tw14341885551094610958 : True := True.intro
theorem pre.tw419592678186724366 : True := True.intro
theorem pre.tw15325541657524958222 : True := True.intro
theorem pre.tw2800792664753828878 : True := True.intro
theorem pre.tw14690803730347045454 : True := True.intro
theorem pre.tw3670702904681640558 : True := True.intro
theorem pre.tw3084459145566127246 : True := True.intro
theorem pre.tw12589290044193592462 : True := True.intro
theorem pre.tw5695831107073025198 : True := True.intro
theorem pre.tw436924975199634638 : True := True.intro
theorem pre.tw12585097549818014926 : True := True.intro
theorem pre.tw1858733227553821902 : True := True.intro
theorem pre.tw18417584658949735630 : True := True.intro
theorem pre.tw3214093470268037326 : True := True.intro
theorem pre.tw6955145063839181550 : True := True.intro
theorem pre.tw6173649217790462734 : True := True.intro
theorem pre.tw17395855218619521326 : True := True.intro
theorem pre.tw8820483062763279694 : True := True.intro
theorem pre.tw17382470910371639630 : True := True.intro
theorem pre.tw11122268070947796334 : True := True.intro
theorem pre.tw5403272685204677518 : True := True.intro
theorem pre.tw8886194726980741006 : True := True.intro
theorem pre.tw16805645503387339662 : True := True.intro
theorem pre.tw18304288047496954798 : True := True.intro
theorem pre.tw10999953890951110606 : True := True.intro
theorem pre.tw16090066376073557486 : True := True.intro
theorem pre.tw15100915405308331502 : True := True.intro
theorem pre.tw14114818587954762254 : True := True.intro
theorem pre.tw6594577622419581998 : True := True.intro
theorem pre.tw3998386826028700750 : True := True.intro
theorem pre.tw12273330657963104334 : True := True.intro
theorem pre.tw7120839316704144494 : True := True.intro
theorem pre.tw165356226715529870 : True := True.intro
theorem pre.tw6134183049807306446 : True := True.intro
theorem pre.tw9367914376656990233 : True := True.intro
theorem pre.tw12046563211032277049 : True := True.intro
theorem pre.tw18169174125322490937 : True := True.intro
theorem pre.tw1082676417079846969 : True := True.intro
theorem pre.tw3474323143149743705 : True := True.intro
theorem pre.tw15398000982672693849 : True := True.intro
theorem pre.tw8710807172190129785 : True := True.intro
theorem pre.tw10913234281572873369 : True := True.intro
theorem pre.tw4825219929874757785 : True := True.intro
theorem pre.tw17026176186809877657 : True := True.intro
theorem pre.tw3585134201701912761 : True := True.intro
theorem pre.tw12499925665815930041 : True := True.intro
theorem pre.tw1248814940450563833 : True := True.intro
theorem pre.tw6228385614787834617 : True := True.intro
theorem pre.tw2909169255905693433 : True := True.intro
theorem pre.tw14085651581015228153 : True := True.intro
theorem pre.tw6079353141657811705 : True := True.intro
theorem pre.tw9471920465309943577 : True := True.intro
theorem pre.tw4357546017936551737 : True := True.intro
theorem pre.tw12132986481263870777 : True := True.intro
theorem pre.tw7912090963691099961 : True := True.intro
theorem pre.tw9976795567011597241 : True := True.intro
theorem pre.tw12232285704363495385 : True := True.intro
theorem pre.tw189099791911123929 : True := True.intro
theorem pre.tw10407134685334565849 : True := True.intro
theorem pre.tw4618456517428802521 : True := True.intro
theorem pre.tw17635420899262969 : True := True.intro
theorem pre.tw484752235830220281 : True := True.intro
theorem pre.tw3584373270994065913 : True := True.intro
theorem pre.tw12900501963870493209 : True := True.intro
theorem pre.tw17400300936412286073 : True := True.intro
theorem pre.tw15162477701905728633 : True := True.intro
theorem pre.tw979071935051430009 : True := True.intro
theorem pre.tw15443995111832032377 : True := True.intro
theorem pre.tw14945086328844986009 : True := True.intro
theorem pre.tw10542127707430485657 : True := True.intro
theorem pre.tw716931048844915385 : True := True.intro
theorem pre.tw5707795403279959737 : True := True.intro
theorem pre.tw9543887211040232121 : True := True.intro
theorem pre.tw10392591283651773145 : True := True.intro
theorem pre.tw9992179587539472089 : True := True.intro
theorem pre.tw10982329067381337817 : True := True.intro
theorem pre.tw10599545732097025273 : True := True.intro
theorem pre.tw6052605086352898297 : True := True.intro
theorem pre.tw16007282664790976761 : True := True.intro
theorem pre.tw145080229787982073 : True := True.intro
theorem pre.tw672959225611335929 : True := True.intro
theorem pre.tw7789821725297367321 : True := True.intro
theorem pre.tw9074155649404464409 : True := True.intro
theorem pre.tw14894786793787797785 : True := True.intro
theorem pre.tw15079899055187471641 : True := True.intro
theorem pre.tw860547318161684793 : True := True.intro
theorem pre.tw15399620886320524121 : True := True.intro
theorem pre.tw6171286676133526393 : True := True.intro
theorem pre.tw5606102326125639065 : True := True.intro
theorem pre.tw7795672250409603481 : True := True.intro
theorem pre.tw4405846924406411672 : True := True.intro
theorem pre.tw2710409395877919128 : True := True.intro
theorem pre.tw3245005382697911704 : True := True.intro
theorem pre.tw13789345529727403416 : True := True.intro
theorem pre.tw17969708497067761592 : True := True.intro
theorem pre.tw7079435217734654936 : True := True.intro
theorem pre.tw10989483578255631352 : True := True.intro
theorem pre.tw5680574235581627928 : True := True.intro
theorem pre.tw11163418058822451736 : True := True.intro
theorem pre.tw6450407510671031832 : True := True.intro
theorem pre.tw10460982494930207832 : True := True.intro
theorem pre.tw9251639431533515864 : True := True.intro
theorem pre.tw3437253557708527704 : True := True.intro
theorem pre.tw9197843342062826648 : True := True.intro
theorem pre.tw14155949197133747896 : True := True.intro
theorem pre.tw3969833081060842168 : True := True.intro
theorem pre.tw7598681257294645944 : True := True.intro
theorem pre.tw5199054398226884280 : True := True.intro
theorem pre.tw308982608686612184 : True := True.intro
theorem pre.tw13501267853701136088 : True := True.intro
theorem pre.tw8260092429045470488 : True := True.intro
theorem pre.tw4612480262821961016 : True := True.intro
theorem pre.tw930476465949760952 : True := True.intro
theorem pre.tw13248623396004964824 : True := True.intro
theorem pre.tw17772547452359383544 : True := True.intro
theorem pre.tw14620457378427028504 : True := True.intro
theorem pre.tw7005009514137481272 : True := True.intro
theorem pre.tw14004889945073749048 : True := True.intro
theorem pre.tw3104302720551110712 : True := True.intro
theorem pre.tw13817858089188807736 : True := True.intro
theorem pre.tw2618425083040622168 : True := True.intro
theorem pre.tw3832175567335106136 : True := True.intro
theorem pre.tw3589300555462871672 : True := True.intro
theorem pre.tw14073290117990315672 : True := True.intro
theorem pre.tw12257088982418930328 : True := True.intro
theorem pre.tw18149451077375957656 : True := True.intro
theorem pre.tw1144098548437181624 : True := True.intro
theorem pre.tw9751102973446884600 : True := True.intro
theorem pre.tw17590910824603114744 : True := True.intro
theorem pre.tw7110556062047600888 : True := True.intro
theorem pre.tw12739544601072094456 : True := True.intro
theorem pre.tw15634472093852328184 : True := True.intro
theorem pre.tw6563794155055709976 : True := True.intro
theorem pre.tw9434423383312190808 : True := True.intro
theorem pre.tw10730463423315425624 : True := True.intro
theorem pre.tw12465534880667144568 : True := True.intro
theorem pre.tw17494537736248232811 : True := True.intro
theorem pre.tw6804518634797863819 : True := True.intro
theorem pre.tw11654104822916205483 : True := True.intro
theorem pre.tw16625544227792515531 : True := True.intro
theorem pre.tw10695211144301343179 : True := True.intro
theorem pre.tw16665120428983882251 : True := True.intro
theorem pre.tw2419705014400668171 : True := True.intro
theorem pre.tw11973032901152852491 : True := True.intro
theorem pre.tw4790726575275492395 : True := True.intro
theorem pre.tw4754966709932629067 : True := True.intro
theorem pre.tw15192658029281925195 : True := True.intro
theorem pre.tw2640150063106703435 : True := True.intro
theorem pre.tw16343693737410308747 : True := True.intro
theorem pre.tw12205417442315965067 : True := True.intro
theorem pre.tw12717990435895272075 : True := True.intro
theorem pre.tw4418882125922225835 : True := True.intro
theorem pre.tw14180140575980489387 : True := True.intro
theorem pre.tw1444278713498566859 : True := True.intro
theorem pre.tw13885554500983267563 : True := True.intro
theorem pre.tw9180169005733092587 : True := True.intro
theorem pre.tw5654262408903492875 : True := True.intro
theorem pre.tw10673096778482656075 : True := True.intro
theorem pre.tw7680747086040835435 : True := True.intro
theorem pre.tw10498269244208167275 : True := True.intro
theorem pre.tw15935275216287933835 : True := True.intro
theorem pre.tw3072908749425181099 : True := True.intro
theorem pre.tw10894663956107906475 : True := True.intro
theorem pre.tw4680640147625128907 : True := True.intro
theorem pre.tw5099000820531024843 : True := True.intro
theorem pre.tw10301595008648329195 : True := True.intro
theorem pre.tw12070492824145415147 : True := True.intro
theorem pre.tw15930660518776220683 : True := True.intro
theorem pre.tw10495099577030630411 : True := True.intro
theorem pre.tw7898016077729013323 : True := True.intro
theorem pre.tw15329784528903690347 : True := True.intro
theorem pre.tw6004603961249500907 : True := True.intro
theorem pre.tw5909313424227598059 : True := True.intro
theorem pre.tw337013569790764811 : True := True.intro
theorem pre.tw18092112841683647243 : True := True.intro
theorem pre.tw10467584612810459915 : True := True.intro
theorem pre.tw1664943059098087755 : True := True.intro
theorem pre.tw4163890072752551243 : True := True.intro
theorem pre.tw4968872116637079883 : True := True.intro
theorem pre.tw4874546225313085354 : True := True.intro
theorem pre.tw500490199815621546 : True := True.intro
theorem pre.tw8473115916398437322 : True := True.intro
theorem pre.tw11126141541769306058 : True := True.intro
theorem pre.tw8822111539979051978 : True := True.intro
theorem pre.tw1553079300804390378 : True := True.intro
theorem pre.tw1829427174372581866 : True := True.intro
theorem pre.tw15566934298817737226 : True := True.intro
theorem pre.tw1293135386942391818 : True := True.intro
theorem pre.tw8029351283227899402 : True := True.intro
theorem pre.tw5909464573696875050 : True := True.intro
theorem pre.tw1253838492420176426 : True := True.intro
theorem pre.tw3748448021693858890 : True := True.intro
theorem pre.tw8897223414016441418 : True := True.intro
theorem pre.tw6276911245363862602 : True := True.intro
theorem pre.tw4305064250753331274 : True := True.intro
theorem pre.tw16885052355279299658 : True := True.intro
theorem pre.tw11292486566806351946 : True := True.intro
theorem pre.tw13364696717918110378 : True := True.intro
theorem pre.tw15885485669406248618 : True := True.intro
theorem pre.tw7509924827448261290 : True := True.intro
theorem pre.tw5849460588068628170 : True := True.intro
theorem pre.tw5520131717032585930 : True := True.intro
theorem pre.tw17303058310663119562 : True := True.intro
theorem pre.tw8609651413294986954 : True := True.intro
theorem pre.tw2720956995591112394 : True := True.intro
theorem pre.tw3585264989568584970 : True := True.intro
theorem pre.tw1133958227264723210 : True := True.intro
theorem pre.tw10293114801307306250 : True := True.intro
theorem pre.tw12772447989991724874 : True := True.intro
theorem pre.tw3967938763027978058 : True := True.intro
theorem pre.tw8359539714159445866 : True := True.intro
theorem pre.tw13826469753551365514 : True := True.intro
theorem pre.tw10527716227274981770 : True := True.intro
theorem pre.tw16991565580418587018 : True := True.intro
theorem pre.tw13951313547550435754 : True := True.intro
theorem pre.tw8989361683803566538 : True := True.intro
theorem pre.tw131909648482159050 : True := True.intro
theorem pre.tw7001403730549606858 : True := True.intro
theorem pre.tw12469662383778504714 : True := True.intro
theorem pre.tw4759524051939694602 : True := True.intro
theorem pre.tw768870236889213962 : True := True.intro
theorem pre.tw16848244135246941194 : True := True.intro
theorem pre.tw8437004342601836106 : True := True.intro
theorem pre.tw824748544863534698 : True := True.intro
theorem pre.tw10449457196957839978 : True := True.intro
theorem pre.tw8686808235498312298 : True := True.intro
theorem pre.tw7676814798855383178 : True := True.intro
theorem pre.tw11473966297913661578 : True := True.intro
theorem pre.tw5409915985561568394 : True := True.intro
theorem pre.tw9271985382920861834 : True := True.intro
theorem pre.tw10727493298722212010 : True := True.intro
theorem pre.tw16502166873643135178 : True := True.intro
theorem pre.tw2725065021846013674 : True := True.intro
theorem pre.tw17394875226946184938 : True := True.intro
theorem pre.tw7048114137555217162 : True := True.intro
theorem pre.tw1605623507844909866 : True := True.intro
theorem pre.tw8736121658627603786 : True := True.intro
theorem pre.tw14537199925234804074 : True := True.intro
theorem pre.tw13203034638947424618 : True := True.intro
theorem pre.tw14638201829111297930 : True := True.intro
theorem pre.tw13994220873631482762 : True := True.intro
theorem pre.tw5019376030195452869 : True := True.intro
theorem pre.tw15788979997828547599 : True := True.intro
set_option Elab.async true in
set_option maxRecDepth 100000 in
set_option maxHeartbeats 0 in
theorem pre (i : Esc PySem.Challenge.rw_xw0347_01.row) : PySem.Challenge.rw_xw0347_01.Holds := by
  w_on; o_law; k_head; (case hw => w_witness2)
  exact trivial
theorem calmHd6 : Mine.Tr.pre.heap_1_39 = Mine.Tr.pre.heap_1_39 := by
  w_top off
  exact rfl
end Mine.Tr
end
-- F1
section
open PySem PySem.W PySem.Spec PySem.Calls PyProof.Rows
namespace Mine
set_option maxRecDepth 10000
abbrev baObj : Obj := { cls := .type "bytearray", dict := none, data := .bytearray #[] }
theorem mro_ba : mroOf (.type "bytearray") = pure [.type "bytearray", .type "object"] := by rw [mroOf_type]; kernel_rfl
theorem lookup_ba_new : typeLookup (.type "bytearray") "__new__" = pure (some (.builtin "bytearray.__new__")) := by rw [typeLookup_type, builtinLookup_eq_fast]; kernel_rfl
theorem sub_ba : isSubtype (.type "bytearray") (.type "bytearray") = pure true := by rw [isSubtype_type]; kernel_rfl
theorem slot_ba_init : Slot "bytearray" "__init__" "bytearray.__init__" := (Slot.of (T := "bytearray") (name := "__init__") (owner := "bytearray") (n := "__init__") (by rw [typeLookup_type, builtinLookup_eq_fast]; kernel_rfl) (by decide +kernel) (by decide +kernel) (by decide +kernel)
    (.inl (by decide +kernel)) (by rw [isSubtype_type]; kernel_rfl))
theorem called_ba : TypeCalled "bytearray" "bytearray.__new__" "bytearray.__init__" :=
  ⟨by decide +kernel, by decide +kernel, ⟨_, _, mro_ba⟩, madeBy_type mro_ba lookup_ba_new (by decide +kernel), by decide +kernel, sub_ba, slot_ba_init⟩
theorem typeCall_ba : checkTypeCall "bytearray" ⟨[], []⟩ = pure () := by kernel_rfl
theorem newCall_ba : checkBuiltinCall "bytearray.__new__" ⟨[.type "bytearray"], []⟩ = pure () := by kernel_rfl
theorem entry_ba_new : entryFor table "bytearray.__new__" = some Builtin.«list.__new__» := entryFor_alias (id' := "list.__new__") (by rw [fastTable_eq_tree]; kernel_rfl) (by first | rfl | decide +kernel) (by decide +kernel) (by rw [fastTable_eq_tree]; kernel_rfl)
theorem entry_ba_init : entryFor table "bytearray.__init__" = some Builtin.«bytearray.__init__» := entryFor_of_tree (by kernel_rfl)
theorem plain_ba_new : plainId "bytearray.__new__" = true := by decide +kernel
set_option maxRecDepth 1000000 in
set_option maxHeartbeats 4000000 in
theorem owner_ba_new : ("bytearray.__new__".splitOn ".__new__").headD "" = "bytearray" := by simp +decide [String.splitOn, String.splitOnAux]
section
variable {prog : Program} {w : World} {A : Around} {E : Value → Shared → Prop} {s : Shared} {R : Result → Shared → Prop}
theorem code_ba_new {Q₁ : Value → Shared → Prop} (h : Q₁ (.ref s.heap.objs.size) { s with heap := s.heap.push baObj }) :
    codeAny (model prog w) A (.call (.builtin "bytearray.__new__") ⟨[.type "bytearray"], []⟩) (wants Q₁ E) s := by
  refine codeAny_of_tree ?_
  show wpAny _ A.in1 (do checkBuiltinCall "bytearray.__new__" ⟨[.type "bytearray"], []⟩; again (.builtin "bytearray.__new__" ⟨[.type "bytearray"], []⟩)) _ _ s
  refine wpAny_bind (wpAny_of_eq newCall_ba (wpAny_pure ⟨plainId_quiet plain_ba_new _, codeAny_builtin_stack entry_ba_new rfl fun p st => ?_⟩))
  rw [Around.under_plainId plain_ba_new _]
  have hsub := sub_ba
  have hown := owner_ba_new
  obtain ⟨hp, g, d, tk, os⟩ := s
  simp only [hown]
  wp_walk
  exact h
theorem codeF_builtin {id : String} {args : Args} {b : Builtin} (hb : entryFor table id = some b) (hh : hid id = false)
    (h : wpF (model prog w) (A.under (.builtin id args)) (b args) (fun fin s' => match fin with | .done f => R (.ok f) s' | .again c' => c'.quiet = true ∧ codeF (model prog w) A c' R s') (fun e s' => R (.error e) s') s) :
    codeF (model prog w) A (.builtin id args) R s := by
  refine codeF_of_tree (by show (!hid id) = true; rw [hh]; rfl) ?_
  show wpF _ _ (match entryFor table id with | some b => b args | none => unsupported ((withoutEnding? id "#data").getD id)) _ _ s
  rw [hb]; exact h
theorem q_of {Q : Bool → Shared → Prop} {s : Shared} {b : Bool} (h : Q false s) (e : b = false) : Q b s := by rw [e]; exact h
theorem hid_of {id : String} (h : hid id = false) {x : String} (hx : hid x = true) : id ≠ x := fun e => by rw [e, hx] at h; cases h
theorem exported_F {self : Value} {Q : Bool → Shared → Prop} (h : Q false s) : wpF (model prog w) A (Builtin.Bytes.exported self) Q E s := fun Γ p h1 h2 h3 => by
  have hall : Clb ((Γ.code, p) :: Γ.below) := Clb.cons h2 h3
  unfold Builtin.Bytes.exported
  show Q (List.any ((Γ.code, p) :: Γ.below) _) s
  refine q_of h ?_
  rw [List.any_eq_false]
  intro x hx hh
  obtain ⟨c, pp⟩ := x
  have hc : okc c = true := hall _ hx
  clear hx hall h h1 h2 h3
  refine Bool.false_ne_true (Eq.trans (Eq.symm ?_) hh)
  clear hh
  cases c with
  | builtin id args =>
    obtain ⟨pos, kw⟩ := args
    have hi : hid id = false := by simpa [okc] using hc
    delta Builtin.Bytes.exported.match_1
    dsimp only
    delta Builtin.Bytes.exported._sparseCasesOn_1
    dsimp only
    refine (dif_neg (hid_of hi (x := "bytearray.__contains__") (by decide))).trans ?_
    refine (dif_neg (hid_of hi (x := "bytearray.__mod__") (by decide))).trans ?_
    refine (dif_neg (hid_of hi (x := "bytearray.__rmod__") (by decide))).trans ?_
    refine (dif_neg (hid_of hi (x := "_struct.pack_into.held") (by decide))).trans ?_
    refine (dif_neg (hid_of hi (x := "bytearray.find.held") (by decide))).trans ?_
    cases pos with
    | nil => rfl
    | cons v l =>
      have h2 : Builtin.Bytes.decodersThatHold.contains id = false := by
        unfold hid at hi
        cases hd : Builtin.Bytes.decodersThatHold.contains id with
        | false => rfl
        | true =>
          exfalso
          rw [List.contains_eq_mem, decide_eq_false_iff_not] at hi
          rw [List.contains_eq_mem, decide_eq_true_eq] at hd
          exact hi (List.mem_append_right _ hd)
      show (Builtin.Bytes.sameRef v self && Builtin.Bytes.decodersThatHold.contains id) = false
      rw [h2, Bool.and_false]
  | _ => rfl
theorem lookup_ba_rel : typeLookup (.type "bytearray") "__release_buffer__" = pure (some (.builtin "bytearray.__release_buffer__")) := by rw [typeLookup_type, builtinLookup_eq_fast]; kernel_rfl
theorem bind_ba : Builtin.Bytes.bindOptional "bytearray.__init__" "bytearray" ["source", "encoding", "errors"] [] [] = pure [none, none, none] := by kernel_rfl
theorem ends_ba : ("bytearray.__release_buffer__".endsWith ("." ++ "__release_buffer__")) = true := by decide +kernel
theorem drop_ba : ("bytearray.__release_buffer__".dropRight ("__release_buffer__".length + 1)) = "bytearray" := by decide +kernel
theorem ownRel_any {M : Model} {n : Addr} {Q : Bool → Shared → Prop} (hTI : s.TypeIs (.ref n) "bytearray") (h : Q false s) : wpAny M A (Builtin.Bytes.ownRelease (.ref n)) Q E s := by
  unfold Builtin.Bytes.ownRelease Builtin.Bytes.slotIsOwn
  refine wpAny_bind (wpAny_bind (wpAny_specialOf hTI lookup_ba_rel ?_))
  dsimp only
  rw [ends_ba, drop_ba, if_neg (by decide)]
  exact wpAny_isInstance hTI sub_ba (wpAny_pure h)
theorem args_ba (self : Value) : argsOk "bytearray.__init__" ⟨[self], []⟩ := by unfold argsOk; kernel_rfl
theorem init_ba_F {n : Addr} {R : Result → Shared → Prop} (hT : s.heap.get? n = some baObj) (h : R (.ok (.ret .none)) { s with heap := s.heap.update n (Obj.mapBytearray fun _ => #[]) }) :
    codeF (model prog w) A (.call (.builtin "bytearray.__init__") ⟨[.ref n], []⟩) R s := by
  have hTI : s.TypeIs (.ref n) "bytearray" := ⟨_, hT, rfl⟩
  refine codeF_of_tree rfl ?_
  show wpF _ A.in1 (do checkBuiltinCall "bytearray.__init__" ⟨[.ref n], []⟩; again (.builtin "bytearray.__init__" ⟨[.ref n], []⟩)) _ _ s
  refine wpF_bind (wpF_of (slot_ba_init.check _ _ _ _ _ _ _ _ hTI (args_ba _) (wpF_pure (And.intro (plainId_quiet slot_ba_init.plain _) (codeF_builtin entry_ba_init (by decide +kernel) ?_)))))
  unfold Builtin.«bytearray.__init__»
  dsimp only
  refine wpF_bind (wpF_of (ownRel_any hTI ?_))
  rw [if_neg (by decide)]
  refine wpF_bind (wpF_of (wpAny_of_eq bind_ba ?_))
  dsimp only
  refine wpF_bind (wpF_of (wpAny_pure ?_))
  refine wpF_bind (wpF_of (wpAny_pure ?_))
  refine wpF_bind ?_
  show wpF _ _ (orM _ _) _ _ _
  unfold orM
  refine wpF_bind (exported_F ?_)
  dsimp only [toBool]
  refine wpF_bind (wpF_of (wpAny_bind (wpAny_load hT (wpAny_pure (wpF_pure ?_)))))
  rw [if_neg (by decide)]
  refine wpF_bind (wpF_of ?_)
  show wpAny _ _ (updateBytearray n _) _ _ _
  unfold updateBytearray
  refine wpAny_bind (wpAny_load hT ?_)
  dsimp only
  refine wpAny_bind (wpAny_update hT ?_)
  unfold lookBehind
  have hT' : (s.heap.update n (Obj.mapBytearray fun _ => #[])).get? n = some (Obj.mapBytearray (fun _ => #[]) baObj) := Heap.get?_update_self _ hT (by rfl)
  refine wpAny_bind (wpAny_loadPart hT' ?_)
  refine wpAny_of_eq (a := ()) (by with_unfolding_all rfl) ?_
  rw [if_neg (by decide), if_neg (by decide)]
  refine wpF_bind (wpF_pure ?_)
  exact wpF_pure h
theorem call_ba_F {Q : Value → Shared → Prop} (h : Q (.ref s.heap.objs.size) { s with heap := (s.heap.push baObj).update s.heap.objs.size (Obj.mapBytearray fun _ => #[]) }) :
    wpF (model prog w) A (call (.type "bytearray") []) Q E s := by
  obtain ⟨c, tl, hmro⟩ := called_ba.mro
  have hmade := called_ba.made
  have hsub := called_ba.sub
  refine wpF_call (codeF_of_tree rfl ?_)
  show wpF _ _ (callAny (.type "bytearray") _) _ _ _
  refine wpF_pure ⟨Code.quiet_builtin _ (by decide +kernel), codeF_builtin F.entry_type_call (by decide +kernel) ?_⟩
  rw [Around.under_plain (weight_type_call_type "bytearray" [] []) rfl]
  have h1 := called_ba.notType
  have h2 := called_ba.canCreate
  unfold Builtin.«type.__call__»
  dsimp only
  rw [if_neg (by rw [h1]; decide), if_neg (by rw [h2]; decide)]
  refine wpF_bind (wpF_of (wpAny_of_eq typeCall_ba ?_))
  refine wpF_bind (wpF_of (wpAny_of_eq mro_ba ?_))
  rw [if_neg (by decide)]
  refine wpF_bind (wpF_of (wpAny_of_eq hmade ?_))
  dsimp only
  refine wpF_bind (wpF_pure ?_)
  refine wpF_bind (wpF_holding (wpF_of (wpAny_call (codeAny_mono (code_ba_new (E := fun _ _ => False) (Q₁ := fun obj s₁ => obj = .ref s.heap.objs.size ∧ s₁ = { s with heap := s.heap.push baObj }) ⟨rfl, rfl⟩) fun r s₁ hr => ?_))))
  cases r with
  | error e => exact hr.elim
  | ok fl =>
    cases fl with
    | ret obj =>
      obtain ⟨rfl, rfl⟩ := hr
      have hS : (s.heap.push baObj).get? s.heap.objs.size = some baObj := Heap.get?_push_size _ rfl
      have hT : Shared.TypeIs { s with heap := s.heap.push baObj } (.ref s.heap.objs.size) "bytearray" := ⟨_, hS, rfl⟩
      dsimp only
      refine wpF_bind (wpF_of (wpAny_isInstance hT sub_ba ?_))
      rw [if_neg (by decide)]
      refine wpF_bind (wpF_holding ?_)
      unfold callSpecial?
      refine wpF_bind (wpF_of (wpAny_specialOf hT slot_ba_init.lookup ?_))
      dsimp only
      refine wpF_holding (wpF_bind (wpF_of (wpAny_of_eq (slot_ba_init.bind _) ?_)))
      dsimp only
      refine wpF_bind (wpF_call (init_ba_F (s := { s with heap := s.heap.push baObj }) hS ?_))
      dsimp only
      refine wpF_pure ?_
      dsimp only
      rw [if_neg (by decide)]
      exact wpF_pure h
    | _ => exact hr.elim
end
end Mine
end
-- F2
section
open PySem PySem.W PySem.Spec PySem.Calls PyProof.Rows
namespace Mine
set_option maxRecDepth 100000
set_option maxHeartbeats 4000000
section
variable {prog : Program} {w : World} {A : Around} {K : Frag} {C : Addr} {R : Result → Shared → Prop} {h : Heap} {g : Array GenState} {d : Drawn} {t : Nat} {os : OsState}
theorem makeF_core {rest : List Value} {kw : List (Str × Value)} {init : Value} (Y : Makes (model prog w) h C) (hi : Looks (model prog w) h (typeLookup (.ref C) "__init__") (some init))
    (hb : ∀ self, Looks (model prog w) h (bindSpecial init self) (init, [self])) (hne : (some init != some (Value.builtin "object.__init__")) = true ∨ (rest = [] ∧ kw = []))
    (hq : codeF (model prog w) (A.under (.builtin "type.__call__" ⟨.ref C :: rest, kw⟩)) (.call init ⟨.ref (h.objs.size + 1) :: rest, kw⟩) (InitBack (h.objs.size + 1) R) ⟨(h.push emptyDict).push (instObj C h.objs.size), g, d, t, os⟩) :
    codeF (model prog w) A (.call (.ref C) ⟨rest, kw⟩) R ⟨h, g, d, t, os⟩ := by
  have Y' := Y
  obtain ⟨⟨oc, od, cd, sl, hC, e1, e2, e4⟩, made, base, self, top, call, typ⟩ := Y
  refine codeF_of_tree rfl ?_
  show wpF _ _ (callAny (.ref C) _) _ _ _
  unfold callAny
  refine wpF_bind (wpF_of (wpAny_load hC ?_))
  show wpF _ _ (callAny.viaDunder (.ref C) _) _ _ _
  unfold callAny.viaDunder
  refine wpF_bind (wpF_of (call.at ?_))
  dsimp only
  rw [tc_bind]
  refine wpF_bind (wpF_pure (wpF_bind (wpF_pure ?_)))
  refine wpF_pure (a := Fin.again (.call (.builtin "type.__call__") ⟨.ref C :: rest, kw⟩)) (And.intro rfl ?_)
  refine codeF_of_tree rfl ?_
  show wpF _ _ (do checkBuiltinCall "type.__call__" ⟨.ref C :: rest, kw⟩; again (.builtin "type.__call__" ⟨.ref C :: rest, kw⟩)) _ _ _
  refine wpF_bind (wpF_of (check_slot tc_kind tc_split typ (tc_args _ _ _) (wpF_pure (And.intro (Code.quiet_builtin _ (by decide +kernel)) (codeF_builtin entry_typeCall (by decide +kernel) ?_)))))
  unfold Builtin.«type.__call__»
  have hm : Looks (model prog w) h (mroOf (.ref C)) cd.mro := ((Looks.ld (part := none) hC).andThen .now).andThen .now
  dsimp only
  rw [if_neg (by intro q; exact absurd (eq_of_beq q) (by intro z; cases z))]
  refine wpF_bind (wpF_of (hm.at ?_))
  rw [if_neg (by rw [e4]; decide)]
  refine wpF_bind (wpF_of (made.at ?_))
  dsimp only
  refine wpF_bind (wpF_pure ?_)
  refine wpF_bind (wpF_holding (wpF_of (wpAny_call (new_K Y' hi hne ?_))))
  dsimp only
  have k : ∀ b o, h.get? b = some o → ((h.push emptyDict).push (instObj C h.objs.size)).get? b = some o := fun b o e => Heap.get?_push_of_some _ (Heap.get?_push_of_some _ e)
  have hx : ((h.push emptyDict).push (instObj C h.objs.size)).get? (h.objs.size + 1) = some (instObj C h.objs.size) := by heap_get
  have t1 : Looks (model prog w) ((h.push emptyDict).push (instObj C h.objs.size)) (typeOf (.ref (h.objs.size + 1))) (.ref C) := (Looks.ld hx).andThen .now
  have s1 := self.keeps k
  have i1 := hi.keeps k
  have b1 := (hb (.ref (h.objs.size + 1))).keeps k
  unfold isInstance
  refine wpF_bind (wpF_of (wpAny_bind (t1.at (s1.at ?_))))
  rw [if_neg (by decide)]
  refine wpF_bind (wpF_holding ?_)
  unfold callSpecial? specialOf
  refine wpF_bind (wpF_of (wpAny_bind (t1.at (i1.at ?_))))
  dsimp only
  refine wpF_holding (wpF_bind (wpF_of (b1.at ?_)))
  dsimp only
  refine wpF_bind (wpF_call (codeF_mono hq fun r s' z => ?_))
  rcases r with e | (v | _ | _ | _) <;> first | exact z | exact z.elim | skip
  obtain ⟨rfl, z⟩ := z
  refine wpF_pure ?_
  dsimp only
  rw [if_neg (by decide)]
  exact wpF_pure z
end
section
variable {prog : Program} {w : World} {A A₀ : Around} {K : Frag} {C x : Addr} {s : Shared} {h₀ base : Heap} {L : Addr} {m mg mb : Str → Option Value} {news : List (Addr × Obj)} {R : Result → Shared → Prop} {p : Program} {loose : List Str} {mean : ExcName → Option Value}
theorem makeF_K {rest : List Value} {kw : List (Str × Value)} {fI : Addr} (F : Fr h₀ L s.heap m) (N : News h₀ L s.heap news) (X : K.In s.heap) (hm : makesIn K C = true)
    (hi : findIn K (.ref C) "__init__" = some (some (.ref fI))) (hf : typeIn K (.ref fI) = some (.type "function"))
    (h : ∀ x dx h', Fr h₀ L h' m → News h₀ L h' ((x, instObj C dx) :: (dx, emptyDict) :: news) → (∀ p ∈ news, p.1 < dx) → dx < x →
      codeF (model prog w) (A.under (.builtin "type.__call__" ⟨.ref C :: rest, kw⟩)) (.call (.ref fI) ⟨.ref x :: rest, kw⟩) (InitBack x R) { s with heap := h' }) :
    codeF (model prog w) A (.call (.ref C) ⟨rest, kw⟩) R s := by
  obtain ⟨hh, g, d, t, os⟩ := s
  refine makeF_core (makes_of X hm) (looks_findIn X hi) (fun self => bind_fn X self hf) (.inl rfl) (h _ hh.objs.size _ ((F.push _).push _) ?_ (fun p hp => Heap.lt_size (N p hp).1) (Nat.lt_succ_self _))
  have := (N.push F emptyDict).push (F.push _) (instObj C hh.objs.size)
  rwa [Heap.size_push] at this
theorem ba_K {E : Value → Shared → Prop} {Q : Value → Shared → Prop} (F : Fr h₀ L s.heap m) (N : News h₀ L s.heap news)
    (h : ∀ D h', Fr h₀ L h' m → News h₀ L h' ((D, baObj) :: news) → (∀ p ∈ news, p.1 < D) → Q (.ref D) { s with heap := h' }) : wpF (model prog w) A (call (.type "bytearray") []) Q E s := by
  refine call_ba_F ?_
  have F1 := F.push baObj
  have N1 := N.push F baObj
  have hD : (s.heap.push baObj).get? s.heap.objs.size = some baObj := Heap.get?_push_size _ rfl
  have hsb : Heap.SameBut s.heap.objs.size (s.heap.push baObj) ((s.heap.push baObj).update s.heap.objs.size (Obj.mapBytearray fun _ => #[])) := Heap.SameBut.update ..
  have z := N1 _ (.head _)
  have off : ∀ p ∈ news, p.1 ≠ s.heap.objs.size := fun p hp => Nat.ne_of_lt (Heap.lt_size (N p hp).1)
  have hU : ((s.heap.push baObj).update s.heap.objs.size (Obj.mapBytearray fun _ => #[])).get? s.heap.objs.size = some baObj := Heap.get?_update_self _ hD (by rfl)
  refine h _ _ (F1.change hsb z.2.1 z.2.2) (fun p hp => ?_) fun p hp => Heap.lt_size (N p hp).1
  rcases List.mem_cons.mp hp with rfl | hp
  · exact ⟨hU, z.2⟩
  · have y := N1 p (.tail _ hp)
    exact ⟨hsb.extBut _ _ (off p hp) y.1, y.2⟩
theorem codeF_def {env : Env} {outer : List Env} {name qual : Str} {params : Arguments} {body : List Stmt} {scope : Scope} {dV kV doc pm cdv ct oc : Value} {an od : Option Addr} {osl : Array (Option Value)} {f : Addr} {args : Args} {binds : List (Str × Value)}
    (B : Below A₀ base outer h₀) (F : Fr h₀ L s.heap m) (X₀ : K.In h₀) (N : News h₀ L s.heap news) (T : Top p loose mean mg mb h₀) (hA : A.frames = some (env :: outer)) (hf : env.frame = some L) (hke : env.scope.kind = .function)
    (ho : K.lookup f = some ⟨oc, od, .func (fnOf name qual params body scope dV kV doc pm an cdv ct), osl⟩) (hcd : codeIn K cdv qual = true) (hroom : A.depth < recursionLimit)
    (hbind : BindsTo s (fnOf name qual params body scope dV kV doc pm an cdv ct) args binds) (hloc : ∀ y ∈ binds, scope.names.lookup y.1 = some .local)
    (h : ∀ g L' h₁, Fr h₀ L g m → Fr g L' h₁ (fun y => binds.reverse.lookup y) → News g L' h₁ news → Below A base (env :: outer) g → K.In g → Top p loose mean mg mb g →
      wpF (model prog w) (A.deeper (envOf qual scope L' f cdv)) (execs body (envOf qual scope L' f cdv))
        (fun fl s' => LeaveK h₀ L m g R (match fl with | .ret v => v | _ => .none) s')
        (fun e s' => wpAny (model prog w) (A.deeper (envOf qual scope L' f cdv)) (leaving (envOf qual scope L' f cdv) e) (fun _ s'' => R (.error e) s'') (fun e' s'' => R (.error e') s'') s')
        { s with heap := h₁, toks := s.toks + binds.length })
    (hco : scope.isCoroutine = false) (hgen : scope.isGenerator = false) (hk : scope.kind = .function)
    (hcell : ∀ x ∈ scope.names, x.2 ≠ .cell) : codeF (model prog w) A (.call (.ref f) args) R s := by
  obtain ⟨FG, BG, st, lv⟩ := groundX (R := R) B F N hA hf hke
  refine codeF_call_function hroom ((X₀.keeps F.keep) _ _ ho) rfl hco hgen rfl (codeRec_of (X₀.keeps F.keep) hcd) (hbind _ _ _ _ ?_)
  refine wpAny_newFunctionEnv hcell hloc (fun h₁ hns hsb => ⟨(T.nolimit.keeps F.keep).fresh _ hsb, codeF_func ?_⟩) hk
  have hk₁ : ∀ b o, s.heap.get? b = some o → h₁.get? b = some o := fun b o e => hsb.extBut b o (Nat.ne_of_lt (Heap.lt_size e)) (Heap.get?_push_of_some _ e)
  refine wpF_mono (h _ s.heap.objs.size h₁ FG ⟨hns, fun b o e => hk₁ b o (of_hideAll _ e), Nat.le_of_eq (hideAll_size _ _)⟩ (fun q hq => ⟨hk₁ _ _ (N q hq).1, Nat.ne_of_lt (Heap.lt_size (N q hq).1), hideAll_none _ (List.mem_map_of_mem hq)⟩) BG (X₀.keeps st) (T.keeps st)) (fun fl s' hl => lv _ _ hl) fun _ _ y => y
end
end Mine
end
-- F3
section
open PySem PySem.W PySem.Spec PySem.Calls PyProof.Rows
namespace Mine
set_option maxRecDepth 100000
section
variable {M : Model} {A : Around} {E : Value → Shared → Prop} {s : Shared} {K : Frag} {env : Env} {pos p px : Pos} {f : Value} {first : List Value} {id : Str}
theorem keepF {α : Type} {vs : List Value} {t : Sem α} {Q : α → Shared → Prop} (h : wpF M A t Q E s) : wpF M A (t.keep vs) Q E s :=
  fun Γ p h1 h2 h3 => by rw [Sem.wp_keep]; exact h Γ p h1 h2 h3
theorem callWithF {P : Heap → Prop} {Q : Value → Shared → Prop} {args : List (Bool × Sem Value)} {keywords : List (Option Str × Sem Value)} (hplain : (args.any (·.1) || keywords.any (·.1.isNone)) = false)
    (hk : ∀ h, P h → ∃ k, (k = Keeper.frame ∨ k = Keeper.machine ∨ k = Keeper.boundFrame) ∧ Looks M h (keeperOf f) k)
    (h : wpAny M A (evalArgs f true args keywords) (fun a s₁ => P s₁.heap ∧ wpF M A (call f (first ++ a.pos) a.kw) Q E s₁) E s) : wpF M A (callWith pos f first args keywords) Q E s := by
  unfold callWith
  refine wpF_bind (wpF_holding (wpF_of (wpAny_mono h (fun a s₁ h₁ => stand_F ?_) fun _ _ x => x)))
  obtain ⟨k, hk', L⟩ := hk _ h₁.1
  simp only [hplain]
  refine wpF_bind (wpF_of (L.here ?_))
  have tail : ∀ {t : Sem Value}, wpF M A t Q E s₁ → wpF M A (t >>= fun r => holding [r] point >>= fun _ => pure r) Q E s₁ :=
    fun ht => wpF_bind (wpF_mono ht (fun r s₂ hr => wpF_of (wpAny_bind (wpAny_holding (wpAny_point (wpAny_pure hr))))) fun _ _ x => x)
  have marked (mk : Value) : wpF M A (callMarked mk f (first ++ a.pos) a.kw) Q E s₁ := by unfold callMarked; exact keepF h₁.2
  rcases hk' with rfl | rfl | rfl <;> dsimp only <;> first | exact tail h₁.2 | (split <;> first | exact tail h₁.2 | exact tail (marked _))
theorem callF_K {Q : Value → Shared → Prop} {e : Expr} {rest : List Expr} (hk : keepIn K f = true) (h : wpAny M A (spliced (backTo pos (starEach (e :: rest) env))) (fun vs s₁ => K.In s₁.heap ∧ wpF M A (call f (first ++ vs)) Q E s₁) E s)
    (he : starEach (e :: rest) env = (false, eval e env) :: starEach rest env := by rfl) (hplain : (backTo pos (starEach rest env)).any (·.1) = false := by rfl) :
    wpF M A (callWith pos f first (backTo pos (starEach (e :: rest) env)) []) Q E s := by
  rw [he] at h ⊢
  exact callWithF (by show ((false || (backTo pos (starEach rest env)).any (·.1)) || false) = false; rw [hplain]; rfl) (keeps_K hk) (evalArgs_plain h)
theorem callF_K0 {Q : Value → Shared → Prop} (X : K.In s.heap) (hk : keepIn K f = true) (h : wpF M A (call f (first ++ [])) Q E s) : wpF M A (callWith pos f first (backTo pos (starEach [] env)) []) Q E s :=
  callWithF rfl (keeps_K hk) (evalArgs_nil3 ⟨X, h⟩)
theorem callF_type {T : String} {Q : Value → Shared → Prop} (h : wpF M A (call (.type T) []) Q E s) : wpF M A (callWith pos (.type T) [] (backTo pos (starEach [] env)) []) Q E s :=
  callWithF (P := fun _ => True) rfl (fun _ _ => ⟨.machine, .inr (.inl rfl), Looks.of_pure rfl⟩) (evalArgs_nil3 ⟨trivial, h⟩)
theorem exprF_call {args : List Expr} {Q : Value → Shared → Prop}
    (h : wpAny M A (eval (.Name id p) env) (fun f s₁ => wpF M A (callWith pos f [] (backTo pos (starEach args env)) []) Q E s₁) E s) : wpF M A (eval (.Call (.Name id p) args [] pos) env) Q E s := by
  show wpF M A (do callWith pos (← eval (.Name id p) env) [] (backTo pos (starEach args env)) (backToKw pos (keywordEach [] env))) Q E s
  exact wpF_bind (wpF_of h)
theorem splicedF_cons {x : Sem Value} {rest : List (Bool × Sem Value)} {Q : List Value → Shared → Prop}
    (h : wpF M A x (fun v s₁ => wpF M A (spliced rest) (fun vs s₂ => Q (v :: vs) s₂) E s₁) E s) : wpF M A (spliced ((false, x) :: rest)) Q E s := by
  rw [spliced]
  refine wpF_bind (wpF_mono h (fun v s₁ h₁ => ?_) fun _ _ x => x)
  simp only [Bool.false_eq_true, if_false]
  exact wpF_bind (wpF_pure (wpF_bind (wpF_holding (wpF_mono h₁ (fun vs s₂ h₂ => wpF_pure h₂) fun _ _ x => x))))
theorem argsF_cons {e : Expr} {rest : List Expr} {Q : List Value → Shared → Prop}
    (h : wpF M A (eval e env) (fun v s₁ => wpF M A (spliced (backTo pos (starEach rest env))) (fun vs s₂ => Q (v :: vs) s₂) E s₁) E s)
    (he : starEach (e :: rest) env = (false, eval e env) :: starEach rest env := by rfl) : wpF M A (spliced (backTo pos (starEach (e :: rest) env))) Q E s := by
  rw [he]; exact splicedF_cons h
theorem tupleF {elts : List Expr} {k : Nat} {Q : Value → Shared → Prop}
    (h : wpF M A (spliced (backTo pos (starEach elts env))) (fun vs s₁ => wpAny M A (newTuple vs) Q E s₁) E s) : wpF M A (eval (.Tuple elts k pos) env) Q E s := by
  show wpF M A (do standAt pos; newTuple (← spliced (backTo pos (starEach elts env)))) Q E s
  exact stand_F (wpF_bind (wpF_mono h (fun _ _ x => wpF_of x) fun _ _ x => x))
theorem assignF_tuple {elts : List Expr} {k : Nat} {tpos : Pos} {value : Expr} {Q : Flow → Shared → Prop}
    (h : wpF M A (eval value env) (fun v s₁ => wpAny M A (assign (.Tuple elts k tpos) env v) (fun _ => Q .next) E s₁) E s)
    (hs : swapsWithSole [.Tuple elts k tpos] value pos.line env = pure false := by rfl)
    (hw : swappedStores [.Tuple elts k tpos] value env = pure none := by rfl) : wpF M A (exec (.Assign [.Tuple elts k tpos] value pos) env) Q E s := by
  rw [exec_Assign]
  refine stand_F ?_
  rw [hs]
  refine wpF_bind (wpF_pure ?_)
  rw [if_neg (by decide)]
  refine wpF_bind (wpF_mono h (fun v s₁ h₁ => ?_) fun _ _ x => x)
  rw [hw]
  refine wpF_bind (wpF_pure ?_)
  show wpF M A (do assignAll v [assign (.Tuple elts k tpos) env]; pure .next) Q E s₁
  exact wpF_of (wpAny_bind (wpAny_mono h₁ (fun _ _ x => wpAny_pure x) fun _ _ x => x))
theorem assignF_swapped {elts : List Expr} {k : Nat} {tpos : Pos} {value : Expr} {names : List Str} {Q : Flow → Shared → Prop}
    (h : wpF M A (eval value env) (fun v s₁ => wpAny M A (unpackItems v names.length none) (fun items s₂ =>
      wpAny M A (assignInOrder (names.reverse.map fun n => bindName env n) items.reverse) (fun _ => Q .next) E s₂) E s₁) E s)
    (hs : swapsWithSole [.Tuple elts k tpos] value pos.line env = pure false := by rfl)
    (hw : swappedStores [.Tuple elts k tpos] value env = pure (some names) := by rfl) : wpF M A (exec (.Assign [.Tuple elts k tpos] value pos) env) Q E s := by
  rw [exec_Assign]
  refine stand_F ?_
  rw [hs]
  refine wpF_bind (wpF_pure ?_)
  rw [if_neg (by decide)]
  refine wpF_bind (wpF_mono h (fun v s₁ h₁ => ?_) fun _ _ x => x)
  rw [hw]
  refine wpF_bind (wpF_pure ?_)
  show wpF M A (do rule "assign.swapped-stores"; let items ← unpackItems v names.length none; assignInOrder (names.reverse.map fun n => bindName env n) items.reverse; pure .next) Q E s₁
  exact wpF_of (wpAny_bind (wpAny_rule (wpAny_bind (wpAny_mono h₁ (fun items s₂ h₂ => wpAny_bind (wpAny_mono h₂ (fun _ _ x => wpAny_pure x) fun _ _ x => x)) fun _ _ x => x))))
theorem assignF_attr {o : Expr} {attr : Str} {pos' : Pos} {value : Expr} {Q : Flow → Shared → Prop}
    (h : wpF M A (eval value env) (fun v s₁ => wpAny M A (eval o env) (fun ov s₂ => wpAny M A (setAttr ov attr v) (fun _ => Q .next) E s₂) E s₁) E s)
    (hs : swapsWith value (some (.Attribute o attr pos')) pos.line env = pure false := by rfl) : wpF M A (exec (.Assign [.Attribute o attr pos'] value pos) env) Q E s := fun Γ p h1 h2 h3 => by
  simp only [plainObj_exec_Assign_Attribute o attr pos' value pos hs, assign_Attribute, Sem.wp_bind', Sem.wp_holding, Sem.wp_cmd_standAt, Sem.wp_release, Sem.wp_pure']
  exact Sem.wp_mono M Γ _ (fun v p₁ s₁ h₁ => Sem.wp_mono M Γ _ (fun ov _ s₂ h₂ => h₂ Γ _ h1) (fun _ _ _ h' => h') _ _ (h₁ Γ p₁ h1)) (fun _ _ _ h' => h') _ _ (h Γ _ h1 h2 h3)
theorem notF {x : Expr} {whole : Sem Value} {Q : Bool → Shared → Prop} (h : wpF M A (isTrue x env (eval x env)) (fun c s' => Q (!c) s') E s) : wpF M A (isTrue (.UnaryOp .Not x pos) env whole) Q E s := by
  show wpF M A (do return !(← isTrue x env (eval x env))) Q E s
  exact wpF_bind (wpF_mono h (fun c s' h' => wpF_pure h') fun _ _ x => x)
theorem plainF {e : Expr} {whole : Sem Value} {Q : Bool → Shared → Prop} (h : wpF M A whole (fun v s₁ => wpAny M A (truthy v) Q E s₁) E s)
    (he : isTrue e env whole = (do let v ← whole; standAt e.pos; holding [v] (truthy v)) := by rfl) : wpF M A (isTrue e env whole) Q E s := by
  rw [he]
  exact wpF_bind (wpF_mono h (fun v s₁ h₁ => stand_F (wpF_of (wpAny_holding h₁))) fun _ _ x => x)
end
section
variable {prog : Program} {w : World} {A : Around} {E : Value → Shared → Prop} {s : Shared} {env : Env} {R : Result → Shared → Prop} {pos px : Pos}
theorem codeF_loop {target : Expr} {it : Value} {body : List Stmt} (I : Nat → Shared → Prop)
    (turn : ∀ n s, I n s → ∀ E' : Value → Shared → Prop, wpAny (model prog w) A (pyNext it) (fun r s₁ => match r with
      | none => R (.ok .next) s₁
      | some v => wpAny (model prog w) A (letOwnedTupleGo target it v) (fun _ s₁' => wpAny (model prog w) A (assign target env v) (fun _ s₂ => wpF (model prog w) A (execs body env) (fun f s₃ => match f with
            | .next | .cont => ∃ m, m < n ∧ I m s₃
            | .brk => R (.ok .next) s₃
            | .ret v => R (.ok (.ret v)) s₃) E' s₂) E' s₁') E' s₁) E' s)
    (n : Nat) (h : I n s) : codeF (model prog w) A (.forLoop target it body [] env) R s := by
  induction n using Nat.strongRecOn generalizing s with
  | ind n ih =>
    refine codeF_of_tree rfl ?_
    show wpF _ A ((forTurn target it body [] env).onRaise (fun x => do noteFrame x env; theTreesLotGoes x)) _ _ s
    refine wpF_onRaise (wpF_mono (E := notedBy (model prog w) A env fun e s' => R (.error e) s') ?_ (fun _ _ x => x) fun _ _ hx => wpAny_bind (wpAny_mono hx (fun _ _ e => wpAny_theTreesLotGoes e) fun _ _ e => e))
    unfold forTurn
    refine stand_F (wpF_bind (wpF_of (wpAny_onRaise (wpAny_mono (turn n s h _) (fun r s₁ h₁ => ?_) fun _ _ h' => wpAny_standAt h'))))
    cases r with
    | none => exact wpF_pure (And.intro rfl (codeF_of (codeAny_block (wpAny_execs_nil h₁))))
    | some v =>
      dsimp only
      refine wpF_bind (wpF_of (wpAny_mono h₁ (fun _ s₁' h₁' => wpF_bind (wpF_of (wpAny_mono h₁' (fun _ s₂ h₂ => wpF_bind (wpF_mono h₂ (fun f s₃ h₃ => ?_) fun _ _ x => x)) fun _ _ x => x))) fun _ _ x => x))
      cases f with
      | next =>
        obtain ⟨m, hm, hI⟩ := h₃
        exact wpF_pure (And.intro rfl (ih m hm hI))
      | cont =>
        obtain ⟨m, hm, hI⟩ := h₃
        exact wpF_pure (And.intro rfl (ih m hm hI))
      | brk => exact wpF_pure h₃
      | ret v => exact wpF_pure h₃
theorem forF {target iter : Expr} {body : List Stmt} {Q : Flow → Shared → Prop}
    (h : wpAny (model prog w) A (eval iter env) (fun x s₁ => wpAny (model prog w) A (pyIter x) (fun it s₂ =>
      codeF (model prog w) A (.forLoop target it body [] env) (fun r s' => match r with | .ok f => Q f s' | .error e => cameBackBy (model prog w) A env E e s') s₂) E s₁) E s)
    (hs : ∀ x, foldedSetIterable iter env x = pure x := by intro _; rfl) : wpF (model prog w) A (exec (.For target iter body [] pos) env) Q E s := by
  rw [exec_For]
  refine stand_F (wpF_bind (wpF_of (wpAny_mono h (fun x s₁ h₁ => wpF_bind (wpF_of (wpAny_of_eq (hs x) (stand_F (wpF_bind (wpF_holding (wpF_of (wpAny_mono h₁ (fun it s₂ h₂ => ?_) fun _ _ x => x)))))))) fun _ _ x => x)))
  unfold runOwn
  exact wpF_onRaise (wpF_run h₂)
end
end Mine
end
-- F4
section
open PySem PySem.W PySem.Spec PySem.Calls PyProof.Rows
namespace Mine
section
variable {prog : Program} {w : World} {A : Around} {s : Shared} {env : Env} {h₀ : Heap} {x : Str} {px : Pos} {body : List Stmt} {E : Value → Shared → Prop}
/-- a for over range(n), its turn walked over clean stacks; J is what holds between the turns -/
theorem forF_range {Q : Flow → Shared → Prop} {r : Addr} {n : Nat} {t₀ u₀ v₀ : Tok} {m₀ : Str → Option Value} {news : List (Addr × Obj)} (J : Nat → (Str → Option Value) → List (Addr × Obj) → Prop)
    (hh : A.handled = none) (hx : env.kindOf x = some .local) (hp : (env.scope.kind == .class || (env.scope.kind == .module && env.locals != env.globals)) = false)
    (hr : IsRange s.heap r 0 n 1 t₀ u₀ v₀) (hsmall : Builtin.Range.small 0 n 1 = true) (hn : Builtin.Range.rangeSize 0 n 1 = (n : Int)) (F : Fr h₀ env.locals s.heap m₀) (N : News h₀ env.locals s.heap news) (hj : J 0 m₀ news)
    (turn : ∀ (E' : Value → Shared → Prop) i t I it m₁ news₁ h tk, i < n → J i m₁ news₁ → (∀ p ∈ news₁, p.1 ≠ I) → Fr h₀ env.locals h (fun y => if y = x then some (.int (i : Int) t) else m₁ y) → News h₀ env.locals h ((I, it) :: news₁) →
      wpF (model prog w) A (execs body env) (fun f s₃ => match f with
        | .next | .cont => ∃ h' tk' m' news', s₃ = { s with heap := h', toks := tk' } ∧ Fr h₀ env.locals h' m' ∧ News h₀ env.locals h' ((I, it) :: news') ∧ (∀ p ∈ news', p.1 ≠ I) ∧ J (i + 1) m' news'
        | .brk => Q .next s₃
        | .ret v => Q (.ret v) s₃) E' { s with heap := h, toks := tk })
    (done : ∀ m' news' h tk, J n m' news' → Fr h₀ env.locals h m' → News h₀ env.locals h news' → Q .next { s with heap := h, toks := tk }) :
    wpAny (model prog w) A (pyIter (.ref r)) (fun it s₂ => codeF (model prog w) A (.forLoop (.Name x px) it body [] env) (fun r s' => match r with | .ok f => Q f s' | .error e => cameBackBy (model prog w) A env E e s') s₂) E s := by
  refine wpAny_pyIter_range hr hsmall ?_
  have hnew : h₀.get? s.heap.objs.size = none := next_is_new F
  have hIL : s.heap.objs.size ≠ env.locals := Nat.ne_of_gt F.ns.lt
  have W := Walks.range (prog := prog) (w := w) hh s.heap.objs.size 0 1 n
  refine codeF_loop (fun k s' => ∀ R9 : Prop, (∀ (h' : Heap) (tk' : Nat) (m' : Str → Option Value) (news' : List (Addr × Obj)) (i : Nat), s' = { s with heap := h', toks := tk' } → IsRangeIter h' s.heap.objs.size (0 + (i : Nat) * 1) ((n : Int) - (i : Nat)) 1 → Fr h₀ env.locals h' m' → News h₀ env.locals h' news' → (∀ p ∈ news', p.1 ≠ s.heap.objs.size) → J i m' news' → i ≤ n → k = n - i → R9) → R9) ?_ n
    (fun _ k9 => k9 _ _ m₀ news 0 rfl ?_ (F.push _) (fun p hp => ⟨Heap.get?_push_of_some _ (N p hp).1, (N p hp).2⟩) (fun p hp => Nat.ne_of_lt (Heap.lt_size (N p hp).1)) hj (Nat.zero_le _) rfl)
  · rintro k s' M9 E'
    refine M9 _ ?_
    clear M9
    rintro h' tk' m' news' i rfl hst F' N' off hJ hi rfl
    have next : ∀ h₁ : Heap, (∀ b o, b ∉ [s.heap.objs.size] → h'.get? b = some o → h₁.get? b = some o) → Fr h₀ env.locals h₁ m' ∧ News h₀ env.locals h₁ news' := fun h₁ hk₁ =>
      ⟨⟨F'.ns.at' fun o e => hk₁ _ o (fun q => hIL (List.mem_singleton.mp q).symm) e, fun b o e => hk₁ b o (fun q => by rw [List.mem_singleton.mp q, hnew] at e; cases e) (F'.keep b o e), F'.above⟩,
        fun p hp => ⟨hk₁ _ _ (fun q => off p hp (List.mem_singleton.mp q)) (N' p hp).1, (N' p hp).2⟩⟩
    by_cases hlt : i < n
    · refine W.item i _ _ _ hlt hst fun v h₁ tk₁ hP hst₁ hk₁ => ?_
      obtain ⟨t, rfl⟩ := hP
      obtain ⟨F₁, N₁⟩ := next h₁ hk₁
      dsimp only
      refine wpAny_pure ?_
      refine wpAny_assign_Name (wpAny_storeName_local hx F₁.ns (fun h₂ hn₂ hs₂ => ?_) hp)
      have F₂ := F₁.set hn₂ hs₂
      have e1 : (0 : Int) + ((i : Nat) : Int) * 1 = (i : Int) := by omega
      rw [e1] at F₂
      have g₂ := (hs₂.2 s.heap.objs.size hIL).trans hst₁
      have N₂ : News h₀ env.locals h₂ ((s.heap.objs.size, _) :: news') := fun p hp => by
        rcases List.mem_cons.mp hp with rfl | hp
        · exact ⟨g₂, hIL, hnew⟩
        · exact N₁.set hs₂ p hp
      refine wpF_mono (turn E' i t _ _ m' news' h₂ _ hlt hJ off F₂ N₂) (fun f s₃ h₃ => ?_) fun _ _ e => e
      cases f with
      | ret v => exact h₃
      | brk => exact h₃
      | next =>
        obtain ⟨h₄, tk₄, m₄, news₄, rfl, F₄, N₄, off₄, hJ₄⟩ := h₃
        exact ⟨n - (i + 1), by omega, fun _ k9 => k9 h₄ tk₄ m₄ news₄ (i + 1) rfl (N₄ _ (.head _)).1 F₄ (fun p hp => N₄ p (.tail _ hp)) off₄ hJ₄ hlt rfl⟩
      | cont =>
        obtain ⟨h₄, tk₄, m₄, news₄, rfl, F₄, N₄, off₄, hJ₄⟩ := h₃
        exact ⟨n - (i + 1), by omega, fun _ k9 => k9 h₄ tk₄ m₄ news₄ (i + 1) rfl (N₄ _ (.head _)).1 F₄ (fun p hp => N₄ p (.tail _ hp)) off₄ hJ₄ hlt rfl⟩
    · have hin : i = n := by omega
      subst hin
      refine W.done _ _ _ hst fun h₁ tk₁ hk₁ => ?_
      obtain ⟨F₁, N₁⟩ := next h₁ hk₁
      exact done m' news' h₁ tk₁ hJ F₁ N₁
  · show IsRangeIter _ _ _ _ _
    rw [hn]; simpa using Heap.get?_push_size _ rfl
end
end Mine
end
-- L0
section
open PySem PySem.W PySem.Spec PySem.Calls PyProof.Rows
namespace Mine
/-! step lemmas -/
theorem off_of {l : List (Addr × Obj)} {d : Addr} (h : ∀ p ∈ l, p.1 < d) : ∀ p ∈ l, p.1 ≠ d := fun p hp => Nat.ne_of_lt (h p hp)
theorem news_tl {h₀ h : Heap} {L : Addr} {q : Addr × Obj} {news : List (Addr × Obj)} (N : News h₀ L h (q :: news)) : News h₀ L h news := fun p hp => N p (List.Mem.tail _ hp)
section
variable {prog : Program} {w : World} {A : Around} {E : Value → Shared → Prop} {s : Shared} {h₀ : Heap} {L l : Addr} {news : List (Addr × Obj)} {vs : List Value} {n : Nat} {k : Int} {u : Tok} {v : Value}
theorem it_lit {value slice : PySem.Expr} {Q : Value → Shared → Prop} (N : News h₀ L s.heap news) (hm : (l, listOf vs.toArray n) ∈ news) (h0 : 0 ≤ k) (hhi : k < 2 ^ 63) (hx : vs[k.toNat]? = some v) (h : Q v s)
    (hs : subscripted slice false (.ref l) (.int k u) = operate [.ref l, .int k u] (getItem (.ref l) (.int k u)) := by with_unfolding_all rfl) :
    wpAny (model prog w) A (subscriptTail value slice (.ref l) (.int k u)) Q E s :=
  have hL := PySem.IsL.isList (n := n) (N _ hm).1
  tail_any hL.typeIs slot_list_getitem.lookup (wpAny_getItem_list hL h0 hhi (by simpa using hx) h) hs
end
theorem ints_erase : ∀ {vs : List Value} {ns : List Int}, IntsAre vs ns → ∀ j : Nat, IntsAre (vs.eraseIdx j) (ns.eraseIdx j)
  | _, _, .nil, _ => .nil
  | _, _, .cons _ _ h, 0 => h
  | _, _, .cons i t h, j + 1 => .cons i t (ints_erase h j)
section
variable {prog : Program} {w : World} {A : Around} {E : Value → Shared → Prop} {s : Shared} {h₀ : Heap} {L D : Addr} {m : Str → Option Value} {news : List (Addr × Obj)} {g : Obj → List (Addr × Obj)} {vs : List Value} {ns : List Int} {n : Nat} {k : Int} {t : Tok}
theorem in_ints_K {Q : Value → Shared → Prop} (N : News h₀ L s.heap news) (hm : (D, listOf vs.toArray n) ∈ news) (hi : IntsAre vs ns) (h : Q (.bool (ns.any (· == k))) s) :
    wpAny (model prog w) A (compareOp .In (.int k t) (.ref D)) Q E s := in_list_ints (PySem.IsL.isList (n := n) (N _ hm).1) hi h
theorem remove_K {Q : Value → Shared → Prop} (F : Fr h₀ L s.heap m) (N : News h₀ L s.heap news) (U : UpdF D (listOf vs.toArray n) news g) (hi : IntsAre vs ns) (hin : (ns.any (· == k)) = true) (hsz : vs.length ≤ sizeLine)
    (h : ∀ h' vs' ns' n', Fr h₀ L h' m → News h₀ L h' (g (listOf vs'.toArray n')) → IntsAre vs' ns' → vs'.length ≤ vs.length → Q .none { s with heap := h' }) :
    wpAny (model prog w) A (call (.builtin "list.remove") [.ref D, .int k t]) Q E s := by
  obtain ⟨pre, post, rfl, hg, a, b⟩ := U.split
  have z := N (D, listOf vs.toArray n) (List.mem_append.mpr (.inr (.head _)))
  have hany : vs.any (isInt k) = true := (any_isInt k hi).trans hin
  have hj : vs.findIdx (isInt k) < vs.length := by
    rw [List.findIdx_lt_length]
    obtain ⟨x, hx, hp⟩ := List.any_eq_true.mp hany
    exact ⟨x, hx, hp⟩
  refine call_meets PySem.F.slot_list_remove ⟨_, z.1, rfl⟩ PySem.F.entry_list_remove (PySem.F.args_list_remove_2 _ _)
    (MeetsSeq.list_remove D vs.toArray n (.int k t) (isInt k) (fun y hy => eq_isInt k t hi y (by simpa using hy)) (vs.findIdx (isInt k)) (by simpa using hj) (by simpa using List.findIdx_getElem (w := hj))
      (fun m hm hlt => by simpa using List.not_of_lt_findIdx hlt) (by simpa using hsz)) ⟨z.1, ?_⟩
  have e : Obj.mapSeq (fun xs => xs.eraseIdxIfInBounds (vs.findIdx (isInt k))) (listOf vs.toArray n) = listOf (vs.eraseIdx (vs.findIdx (isInt k))).toArray (n + 1) := mapSeq_erase vs.toArray n _ (by simpa using hj)
  have q2 : (s.heap.update D (Obj.mapSeq fun xs => xs.eraseIdxIfInBounds (vs.findIdx (isInt k)))).get? D = some (listOf (vs.eraseIdx (vs.findIdx (isInt k))).toArray (n + 1)) :=
    (Heap.get?_update_self (Obj.mapSeq fun xs => xs.eraseIdxIfInBounds (vs.findIdx (isInt k))) z.1 (by show Obj.isFreed (Obj.mapSeq _ (listOf vs.toArray n)) = false; rw [e]; rfl)).trans (congrArg some e)
  have q := h _ (vs.eraseIdx (vs.findIdx (isInt k))) _ (n + 1) (F.change (Heap.SameBut.update ..) z.2.1 z.2.2)
    (hg _ ▸ news_set N a b (Heap.SameBut.update ..) q2) (ints_erase hi _) (by rw [List.length_eraseIdx]; split <;> omega)
  exact q
end
section
variable {prog : Program} {w : World} {K : Type} [DecidableEq K] {knd : KeyKind prog w K} {A : Around} {E : Value → Shared → Prop} {s : Shared} {h₀ : Heap} {L d : Addr} {news : List (Addr × Obj)} {o : Obj} {kvs : List (K × Value)} {k : K} {key v : Value}
theorem dget_K {Q : Value → Shared → Prop} (N : News h₀ L s.heap news) (hp : (d, o) ∈ news) (hd : o.IsDictOf knd kvs) (hkey : knd.is k key = true) (hl : valueAt kvs k = some v) (h : Q v { s with toks := s.toks + 1 }) :
    wpAny (model prog w) A (getItem (.ref d) key) Q E s :=
  have hD := kda_dict N hp hd
  wpAny_getItem_of hkey hD.mapOf hl h
end
section
variable {prog : Program} {w : World} {A : Around} {E : Value → Shared → Prop} {s : Shared} {h₀ : Heap} {L : Addr} {m : Str → Option Value} {news : List (Addr × Obj)}
theorem min3_K {a b c : Int} {t u x : Tok} {Q : Value → Shared → Prop} (hh : A.handled = none) (F : Fr h₀ L s.heap m) (N : News h₀ L s.heap news)
    (h : ∀ h' tk r tr, r ≤ a → r ≤ b → r ≤ c → (r = a ∨ r = b ∨ r = c) → Fr h₀ L h' m → News h₀ L h' news → Q (.int r tr) { s with heap := h', toks := tk }) :
    wpAny (model prog w) A (call (.builtin "min") [.int a t, .int b u, .int c x]) Q E s := by
  refine min_three_ints hh fun h' tk hk => ?_
  have key := fun r tr h1 h2 h3 h4 => h h' tk r tr h1 h2 h3 h4 (F.grownK hk) (N.grown hk)
  by_cases hba : b < a <;> by_cases hc1 : c < b <;> by_cases hc2 : c < a <;> simp only [hba, hc1, hc2, if_true, if_false] <;> exact key _ _ (by omega) (by omega) (by omega) (by omega)
theorem min2_K {a b : Int} {t u : Tok} {Q : Value → Shared → Prop} (hh : A.handled = none) (F : Fr h₀ L s.heap m) (N : News h₀ L s.heap news)
    (h : ∀ h' tk r tr, r ≤ a → r ≤ b → (r = a ∨ r = b) → Fr h₀ L h' m → News h₀ L h' news → Q (.int r tr) { s with heap := h', toks := tk }) :
    wpAny (model prog w) A (call (.builtin "min") [.int a t, .int b u]) Q E s := by
  refine min_two_ints hh fun h' tk hk => ?_
  have key := fun r tr h1 h2 h4 => h h' tk r tr h1 h2 h4 (F.grownK hk) (N.grown hk)
  by_cases hba : b < a <;> simp only [hba, if_true, if_false] <;> exact key _ _ (by omega) (by omega) (by omega)
theorem max2_K {a b : Int} {t u : Tok} {Q : Value → Shared → Prop} (hh : A.handled = none) (F : Fr h₀ L s.heap m) (N : News h₀ L s.heap news)
    (h : ∀ h' tk r tr, a ≤ r → b ≤ r → (r = a ∨ r = b) → Fr h₀ L h' m → News h₀ L h' news → Q (.int r tr) { s with heap := h', toks := tk }) :
    wpAny (model prog w) A (call (.builtin "max") [.int a t, .int b u]) Q E s := by
  refine max_two_ints hh fun h' tk hk => ?_
  have key := fun r tr h1 h2 h4 => h h' tk r tr h1 h2 h4 (F.grownK hk) (N.grown hk)
  by_cases hba : b > a <;> simp only [hba, if_true, if_false] <;> exact key _ _ (by omega) (by omega) (by omega)
end
section
variable {prog : Program} {w : World} {A : Around} {E : Value → Shared → Prop} {s : Shared} {h₀ : Heap} {L a : Addr} {news : List (Addr × Obj)} {l : List Value} {n : Nat} {u : Tok} {v : Value}
theorem it_tup0 {value slice : PySem.Expr} {Q : Value → Shared → Prop} (N : News h₀ L s.heap news) (hm : (a, (⟨.type "tuple", none, .seq (v :: l).toArray n, #[]⟩ : Obj)) ∈ news) (h : Q v s)
    (hs : subscripted slice false (.ref a) (.int 0 u) = operate [.ref a, .int 0 u] (getItem (.ref a) (.int 0 u)) := by with_unfolding_all rfl) :
    wpAny (model prog w) A (subscriptTail value slice (.ref a) (.int 0 u)) Q E s :=
  item_tupleT (News.isTup N hm) (by decide) (by decide) (j := 0) (by simp [seqIndex?]) rfl h hs
end
theorem unr_end {h₀ : Heap} {L I : Addr} {it : Obj} {rest : (Str → Option Value) → List (Addr × Obj) → Prop} {s₁ : Shared} {h' : Heap} {tk : Nat} {m' : Str → Option Value} {news' : List (Addr × Obj)} (F : Fr h₀ L h' m') (N : News h₀ L h' ((I, it) :: news')) (off : ∀ p ∈ news', p.1 < I) (r : rest m' news') :
    UnrEnd h₀ L s₁ I it rest { s₁ with heap := h', toks := tk } := UnrEnd.intro F N news' (fun _ h => h) (off_of off) r
end Mine
end
-- L1
section
open PySem PySem.W PySem.Spec PySem.Calls PyProof.Rows
namespace Mine
/-- what a call keeps of the objects that it does not touch -/
def KeepBut (h h' : Heap) (l : List Addr) : Prop := ∀ b o, h.get? b = some o → b ∉ l → h'.get? b = some o
def NewOr (h : Heap) (l : List Addr) (foot : List (Addr × Obj)) : Prop := ∀ q ∈ foot, q.1 ∈ l ∨ h.get? q.1 = none
section
variable {prog : Program} {w : World} {A A₀ : Around} {E : Value → Shared → Prop} {s : Shared} {K : Frag} {L : Addr} {h₀ base : Heap} {m mg mb : Str → Option Value} {news : List (Addr × Obj)} {p : Program} {loose : List Str} {mean : ExcName → Option Value}
theorem code_defF {env : Env} {outer : List Env} {R : Result → Shared → Prop} {name qual : Str} {params : Arguments} {body : List Stmt} {scope : Scope} {dV kV doc pm cdv ct oc : Value} {an od : Option Addr} {osl : Array (Option Value)} {f : Addr} {args : Args} {binds : List (Str × Value)}
    (B : Below A₀ base outer h₀) (F : Fr h₀ L s.heap m) (X₀ : K.In h₀) (N : News h₀ L s.heap news) (T : Top p loose mean mg mb h₀) (hA : A.frames = some (env :: outer)) (hf : env.frame = some L) (hke : env.scope.kind = .function)
    (ho : K.lookup f = some ⟨oc, od, .func (fnOf name qual params body scope dV kV doc pm an cdv ct), osl⟩) (hcd : codeIn K cdv qual = true) (hroom : A.depth < recursionLimit)
    (hbind : BindsTo s (fnOf name qual params body scope dV kV doc pm an cdv ct) args binds) (hloc : ∀ y ∈ binds, scope.names.lookup y.1 = some .local)
    (h : ∀ g L' h₁, Fr h₀ L g m → Fr g L' h₁ (fun y => binds.reverse.lookup y) → News g L' h₁ news → Below A base (env :: outer) g → K.In g → Top p loose mean mg mb g → KeepBut s.heap g (news.map (·.1)) →
      wpAny (model prog w) (A.deeper (envOf qual scope L' f cdv)) (execs body (envOf qual scope L' f cdv))
        (fun fl s' => LeaveK h₀ L m g R (match fl with | .ret v => v | _ => .none) s')
        (fun e s' => wpAny (model prog w) (A.deeper (envOf qual scope L' f cdv)) (leaving (envOf qual scope L' f cdv) e) (fun _ s'' => R (.error e) s'') (fun e' s'' => R (.error e') s'') s')
        { s with heap := h₁, toks := s.toks + binds.length })
    (hco : scope.isCoroutine = false) (hgen : scope.isGenerator = false) (hk : scope.kind = .function)
    (hcell : ∀ x ∈ scope.names, x.2 ≠ .cell) : codeAny (model prog w) A (.call (.ref f) args) R s := by
  obtain ⟨FG, BG, st, lv⟩ := groundX (R := R) B F N hA hf hke
  refine codeAny_call_def (fd := fnOf name qual params body scope dV kV doc pm an cdv ct) (body := body) (binds := binds) hroom ((X₀.keeps F.keep) _ _ ho) rfl (T.nolimit.keeps F.keep) (codeRec_of (X₀.keeps F.keep) hcd) rfl hbind hcell hloc (fun h₁ hns hk₁ => ?_) hco hgen hk
  refine wpAny_mono (h _ s.heap.objs.size h₁ FG ⟨hns, fun b o e => hk₁ b o (of_hideAll _ e), Nat.le_of_eq (hideAll_size _ _)⟩ (fun q hq => ⟨hk₁ _ _ (N q hq).1, Nat.ne_of_lt (Heap.lt_size (N q hq).1), hideAll_none _ (List.mem_map_of_mem hq)⟩) BG (X₀.keeps st) (T.keeps st)
    (fun b o e hb => hideAll_get _ e hb)) (fun fl s' hl => lv _ _ hl) fun _ _ y => y
end
theorem frame_end {h g h' : Heap} {L' : Addr} {m' : Str → Option Value} {l : List Addr} {foot foot' : List (Addr × Obj)} (F' : Fr g L' h' m') (N' : News g L' h' foot') (hs : ∀ q ∈ foot, q ∈ foot') (hg : KeepBut h g l) :
    KeepBut h h' l ∧ NewOr h l foot := by
  refine ⟨fun b o e hb => F'.keep _ _ (hg b o e hb), fun q hq => ?_⟩
  by_cases hl : q.1 ∈ l
  · exact .inl hl
  · refine .inr ?_
    cases hc : h.get? q.1 with
    | none => rfl
    | some o =>
      have h1 := (N' q (hs q hq)).2.2
      rw [hg _ _ hc hl] at h1
      cases h1
end Mine
end
-- L4
section
open PySem PySem.W PySem.Spec PySem.Calls PyProof.Rows
namespace Mine
section
variable {prog : Program} {w : World} {A A₀ : Around} {E : Value → Shared → Prop} {s : Shared} {K : Frag} {L : Addr} {h₀ base : Heap} {m mg mb : Str → Option Value} {news : List (Addr × Obj)} {p : Program} {loose : List Str} {mean : ExcName → Option Value}
theorem code_defCF {env : Env} {outer : List Env} {R : Result → Shared → Prop} {name qual : Str} {params : Arguments} {body : List Stmt} {scope : Scope} {dV kV doc pm cdv ct oc : Value} {an od : Option Addr} {osl : Array (Option Value)} {f : Addr} {args : Args} {binds : List (Str × Value)}
    (B : Below A₀ base outer h₀) (F : Fr h₀ L s.heap m) (X₀ : K.In h₀) (N : News h₀ L s.heap news) (T : Top p loose mean mg mb h₀) (hA : A.frames = some (env :: outer)) (hf : env.frame = some L) (hke : env.scope.kind = .function)
    (ho : K.lookup f = some ⟨oc, od, .func (fnOf name qual params body scope dV kV doc pm an cdv ct), osl⟩) (hcd : codeIn K cdv qual = true) (hroom : A.depth < recursionLimit)
    (hbind : BindsTo s (fnOf name qual params body scope dV kV doc pm an cdv ct) args binds) (hkind : (binds.all fun y => scope.names.lookup y.1 == some .local || scope.names.lookup y.1 == some .cell) = true)
    (hnd : ((cellsFrom 0 scope.names []).map (·.1)).Nodup)
    (h : ∀ g L' h₁ tk cells, Fr h₀ L g m → Fr g L' h₁ (bindL (envOfC qual scope L' f cdv).kindOf binds fun _ => none) → News g L' h₁ (cells ++ news) →
      CellsAre (bindC (envOfC qual scope L' f cdv).kindOf binds fun _ => none) (cellsFrom (L' + 1) scope.names []) cells → Below A base (env :: outer) g → K.In g → Top p loose mean mg mb g → (∀ p ∈ news, p.1 < L') → KeepBut s.heap g (news.map (·.1)) →
      wpAny (model prog w) (A.deeper (envOfC qual scope L' f cdv)) (execs body (envOfC qual scope L' f cdv))
        (fun fl s' => LeaveK h₀ L m g R (match fl with | .ret v => v | _ => .none) s')
        (fun e s' => wpAny (model prog w) (A.deeper (envOfC qual scope L' f cdv)) (leaving (envOfC qual scope L' f cdv) e) (fun _ s'' => R (.error e) s'') (fun e' s'' => R (.error e') s'') s')
        { s with heap := h₁, toks := tk })
    (hco : scope.isCoroutine = false) (hgen : scope.isGenerator = false) (hk : scope.kind = .function) : codeAny (model prog w) A (.call (.ref f) args) R s := by
  obtain ⟨FG, BG, st, lv⟩ := groundX (R := R) B F N hA hf hke
  refine codeAny_call_function hroom ((X₀.keeps F.keep) _ _ ho) rfl hco hgen rfl (codeRec_of (X₀.keeps F.keep) hcd) (hbind _ _ _ _ ?_)
  refine wpAny_newFunctionEnv_cells hk (kindsX hkind _) fun env' he s' x => ?_
  subst he
  refine ⟨(T.nolimit.keeps F.keep).keeps x.toInCall.keep, codeAny_func ?_⟩
  obtain ⟨h₁, tk, rfl, _⟩ := x.done
  have hk₁ := x.toInCall.keep
  obtain ⟨cells, NC, Y⟩ := Cl.news (h₀ := s.heap) (Nat.le_refl _) fun n c hm => ⟨x.cell n c (lookup_of_mem_nodup (cellsFrom_names scope.names 0 (s.heap.objs.size + 1) [] [] rfl ▸ hnd) hm), x.above n c hm⟩
  refine wpAny_mono (h _ s.heap.objs.size h₁ tk cells FG ⟨x.toInCall.ns, fun b o e => hk₁ b o (of_hideAll _ e), Nat.le_of_eq (hideAll_size _ _)⟩ (fun q hq => ?_) Y BG (X₀.keeps st) (T.keeps st) (fun q hq => Heap.lt_size (N q hq).1) (fun b o e hb => hideAll_get _ e hb)) (fun fl s' hl => lv _ _ hl) fun _ _ y => y
  rcases List.mem_append.mp hq with hq | hq
  · refine ⟨(NC q hq).1, (NC q hq).2.1, ?_⟩
    cases z : (hideAll s.heap (news.map (·.1))).get? q.1 with
    | none => rfl
    | some o =>
      have := of_hideAll _ z
      rw [(NC q hq).2.2] at this
      cases this
  · exact ⟨hk₁ _ _ (N q hq).1, Nat.ne_of_lt (Heap.lt_size (N q hq).1), hideAll_none _ (List.mem_map_of_mem hq)⟩
end
end Mine
end
-- D0
section
open PySem PySem.W PySem.Spec PySem.Calls PyProof.Rows
namespace Mine
@[reducible] noncomputable def oS (P : Params) (k : Nat → Tok) (pe qu : Addr) (ui nx gr : Int) (syn fin : Bool) : Obj := dictOf [⟨PyData.keyHash P (Str.ofString "iss"), .str (Str.ofString "iss") (k 0), .int 253 (k 1)⟩, ⟨PyData.keyHash P (Str.ofString "ring"), .str (Str.ofString "ring") (k 2), .int 256 (k 3)⟩, ⟨PyData.keyHash P (Str.ofString "mss"), .str (Str.ofString "mss") (k 4), .int 4 (k 5)⟩, ⟨PyData.keyHash P (Str.ofString "una"), .str (Str.ofString "una") (k 6), .int ui (k 7)⟩, ⟨PyData.keyHash P (Str.ofString "next"), .str (Str.ofString "next") (k 8), .int nx (k 9)⟩, ⟨PyData.keyHash P (Str.ofString "greatest"), .str (Str.ofString "greatest") (k 10), .int gr (k 11)⟩, ⟨PyData.keyHash P (Str.ofString "peer"), .str (Str.ofString "peer") (k 12), .ref pe⟩, ⟨PyData.keyHash P (Str.ofString "queue"), .str (Str.ofString "queue") (k 13), .ref qu⟩, ⟨PyData.keyHash P (Str.ofString "syn_pending"), .str (Str.ofString "syn_pending") (k 14), .bool syn⟩, ⟨PyData.keyHash P (Str.ofString "fin_asked"), .str (Str.ofString "fin_asked") (k 15), .bool fin⟩, ⟨PyData.keyHash P (Str.ofString "fin_sent"), .str (Str.ofString "fin_sent") (k 16), .bool false⟩] 11
@[reducible] noncomputable def oP (P : Params) (k : Nat → Tok) (win mo : Int) : Obj := dictOf [⟨PyData.keyHash P (Str.ofString "ring"), .str (Str.ofString "ring") (k 17), .int 256 (k 18)⟩, ⟨PyData.keyHash P (Str.ofString "size"), .str (Str.ofString "size") (k 19), .int win (k 20)⟩, ⟨PyData.keyHash P (Str.ofString "most"), .str (Str.ofString "most") (k 21), .int mo (k 22)⟩, ⟨PyData.keyHash P (Str.ofString "told_seq"), .str (Str.ofString "told_seq") (k 23), .int 252 (k 24)⟩, ⟨PyData.keyHash P (Str.ofString "told_ack"), .str (Str.ofString "told_ack") (k 25), .int 254 (k 26)⟩] 5
@[reducible] noncomputable def oQ (P : Params) (k : Nat → Tok) (bs : Array UInt8) : Obj := dictOf [⟨PyData.keyHash P (Str.ofString "room"), .str (Str.ofString "room") (k 27), .int 40 (k 28)⟩, ⟨PyData.keyHash P (Str.ofString "held"), .str (Str.ofString "held") (k 29), .bytes bs (k 30)⟩] 2
@[reducible] noncomputable def oC (P : Params) (k : Nat → Tok) (est : Addr) (tries : Int) : Obj := dictOf [⟨PyData.keyHash P (Str.ofString "estimate"), .str (Str.ofString "estimate") (k 31), .ref est⟩, ⟨PyData.keyHash P (Str.ofString "most_tries"), .str (Str.ofString "most_tries") (k 32), .int 3 (k 33)⟩, ⟨PyData.keyHash P (Str.ofString "tries"), .str (Str.ofString "tries") (k 34), .int tries (k 35)⟩, ⟨PyData.keyHash P (Str.ofString "timed_end"), .str (Str.ofString "timed_end") (k 36), .none⟩, ⟨PyData.keyHash P (Str.ofString "timed_at"), .str (Str.ofString "timed_at") (k 37), .int 0 (k 38)⟩] 5
@[reducible] noncomputable def oE (P : Params) (k : Nat → Tok) : Obj := dictOf [⟨PyData.keyHash P (Str.ofString "first"), .str (Str.ofString "first") (k 39), .int 10 (k 40)⟩, ⟨PyData.keyHash P (Str.ofString "least"), .str (Str.ofString "least") (k 41), .int 5 (k 42)⟩, ⟨PyData.keyHash P (Str.ofString "most"), .str (Str.ofString "most") (k 43), .int 60 (k 44)⟩, ⟨PyData.keyHash P (Str.ofString "mean8"), .str (Str.ofString "mean8") (k 45), .int 0 (k 46)⟩, ⟨PyData.keyHash P (Str.ofString "spread4"), .str (Str.ofString "spread4") (k 47), .int 0 (k 48)⟩, ⟨PyData.keyHash P (Str.ofString "measured"), .str (Str.ofString "measured") (k 49), .int 0 (k 50)⟩] 6
@[reducible] noncomputable def oT (P : Params) (k : Nat → Tok) (li lo re snd rc clk cg ak whl : Addr) (st : Str) (ts : Tok) (pr : Int) (tp : Tok) : Obj := dictOf [⟨PyData.keyHash P (Str.ofString "limits"), .str (Str.ofString "limits") (k 51), .ref li⟩, ⟨PyData.keyHash P (Str.ofString "local"), .str (Str.ofString "local") (k 52), .ref lo⟩, ⟨PyData.keyHash P (Str.ofString "remote"), .str (Str.ofString "remote") (k 53), .ref re⟩, ⟨PyData.keyHash P (Str.ofString "state"), .str (Str.ofString "state") (k 54), .str st ts⟩, ⟨PyData.keyHash P (Str.ofString "sender"), .str (Str.ofString "sender") (k 55), .ref snd⟩, ⟨PyData.keyHash P (Str.ofString "receiver"), .str (Str.ofString "receiver") (k 56), .ref rc⟩, ⟨PyData.keyHash P (Str.ofString "clock"), .str (Str.ofString "clock") (k 57), .ref clk⟩, ⟨PyData.keyHash P (Str.ofString "congestion"), .str (Str.ofString "congestion") (k 58), .ref cg⟩, ⟨PyData.keyHash P (Str.ofString "acks"), .str (Str.ofString "acks") (k 59), .ref ak⟩, ⟨PyData.keyHash P (Str.ofString "wheel"), .str (Str.ofString "wheel") (k 60), .ref whl⟩, ⟨PyData.keyHash P (Str.ofString "error"), .str (Str.ofString "error") (k 61), .none⟩, ⟨PyData.keyHash P (Str.ofString "probes"), .str (Str.ofString "probes") (k 62), .int pr tp⟩, ⟨PyData.keyHash P (Str.ofString "unanswered"), .str (Str.ofString "unanswered") (k 63), .int 0 (k 64)⟩, ⟨PyData.keyHash P (Str.ofString "is_nagle"), .str (Str.ofString "is_nagle") (k 65), .bool true⟩] 14
@[reducible] noncomputable def oW (P : Params) (k : Nat → Tok) (sl lt en : Addr) (gv : Int) (tg : Tok) : Obj := dictOf [⟨PyData.keyHash P (Str.ofString "size"), .str (Str.ofString "size") (k 66), .int 16 (k 67)⟩, ⟨PyData.keyHash P (Str.ofString "slots"), .str (Str.ofString "slots") (k 68), .ref sl⟩, ⟨PyData.keyHash P (Str.ofString "late"), .str (Str.ofString "late") (k 69), .ref lt⟩, ⟨PyData.keyHash P (Str.ofString "entries"), .str (Str.ofString "entries") (k 70), .ref en⟩, ⟨PyData.keyHash P (Str.ofString "reached"), .str (Str.ofString "reached") (k 71), .none⟩, ⟨PyData.keyHash P (Str.ofString "given"), .str (Str.ofString "given") (k 72), .int gv tg⟩] 6
@[reducible] noncomputable def oPX (P : Params) (k : Nat → Tok) (sq : Value) (ak win mo : Int) : Obj := dictOf [⟨PyData.keyHash P (Str.ofString "ring"), .str (Str.ofString "ring") (k 17), .int 256 (k 18)⟩, ⟨PyData.keyHash P (Str.ofString "size"), .str (Str.ofString "size") (k 19), .int win (k 20)⟩, ⟨PyData.keyHash P (Str.ofString "most"), .str (Str.ofString "most") (k 21), .int mo (k 22)⟩, ⟨PyData.keyHash P (Str.ofString "told_seq"), .str (Str.ofString "told_seq") (k 23), sq⟩, ⟨PyData.keyHash P (Str.ofString "told_ack"), .str (Str.ofString "told_ack") (k 25), .int ak (k 26)⟩] 5
@[reducible] noncomputable def oTX (P : Params) (k : Nat → Tok) (li lo re snd : Addr) (rc : Value) (clk cg ak whl : Addr) (st : Str) (ts : Tok) (pr : Int) (tp : Tok) : Obj := dictOf [⟨PyData.keyHash P (Str.ofString "limits"), .str (Str.ofString "limits") (k 51), .ref li⟩, ⟨PyData.keyHash P (Str.ofString "local"), .str (Str.ofString "local") (k 52), .ref lo⟩, ⟨PyData.keyHash P (Str.ofString "remote"), .str (Str.ofString "remote") (k 53), .ref re⟩, ⟨PyData.keyHash P (Str.ofString "state"), .str (Str.ofString "state") (k 54), .str st ts⟩, ⟨PyData.keyHash P (Str.ofString "sender"), .str (Str.ofString "sender") (k 55), .ref snd⟩, ⟨PyData.keyHash P (Str.ofString "receiver"), .str (Str.ofString "receiver") (k 56), rc⟩, ⟨PyData.keyHash P (Str.ofString "clock"), .str (Str.ofString "clock") (k 57), .ref clk⟩, ⟨PyData.keyHash P (Str.ofString "congestion"), .str (Str.ofString "congestion") (k 58), .ref cg⟩, ⟨PyData.keyHash P (Str.ofString "acks"), .str (Str.ofString "acks") (k 59), .ref ak⟩, ⟨PyData.keyHash P (Str.ofString "wheel"), .str (Str.ofString "wheel") (k 60), .ref whl⟩, ⟨PyData.keyHash P (Str.ofString "error"), .str (Str.ofString "error") (k 61), .none⟩, ⟨PyData.keyHash P (Str.ofString "probes"), .str (Str.ofString "probes") (k 62), .int pr tp⟩, ⟨PyData.keyHash P (Str.ofString "unanswered"), .str (Str.ofString "unanswered") (k 63), .int 0 (k 64)⟩, ⟨PyData.keyHash P (Str.ofString "is_nagle"), .str (Str.ofString "is_nagle") (k 65), .bool true⟩] 14
end Mine
end
-- T1
section
open PySem PySem.W PySem.Spec PySem.Calls PyProof.Rows
namespace Mine
local macro_rules | `(tactic| k_room) => `(tactic| ((try simp only [depth_under_make, depth_under_kw, depth_in1, depth_deeper, depth_caller]); (try dsimp only [ktrTop]); omega))
local macro_rules | `(tactic| ktr_room) => `(tactic| ((try simp only [depth_under_make, depth_under_kw, depth_in1, depth_deeper, depth_caller]); (try dsimp only [ktrTop]); omega))
local macro_rules | `(tactic| walk_at $s:str) => `(tactic| k_extra $s)
local macro_rules | `(tactic| k_ne) => `(tactic| (refine neN ?_; (try dsimp only); first | with_reducible assumption | (refine Ne.symm ?_; with_reducible assumption)))
section
theorem rowsT1x1 : True := by
  k_with_none
  k_with "data" => (repeat ((fail_if_success (refine Classical.byContradiction ?_)); rotate_left))
  k_with "callWith ref" => (k_here; k_dflt (refine' callWith_K (by with_reducible assumption) (by k_is) ?_; k_whole))
  k_with "callWith ref" => (k_here; (with_reducible show wpAny _ _ (callWith _ _ _ (backTo _ (starEach [] _)) []) _ _ _); (with_reducible rename Fr _ _ _ _ => kF); k_dflt (refine' callWith_K0 (Frag.In.keeps (by with_reducible assumption) (Fr.keep kF)) (by k_is) ?_; k_whole))
  k_with "subscriptTail Name Constant ref int" => (k_here; (with_reducible show wpAny _ _ (subscriptTail _ _ (Value.ref _) (Value.int _ _)) _ _ _); k_dflt (refine' it_lit (by k_asm) (by k_mem) (by decide) (by decide) (by exact rfl) ?_ (by with_unfolding_all rfl); k_whole))
  exact True.intro
set_option maxRecDepth 100000 in
set_option maxHeartbeats 8000000 in
theorem take_ok {w : World} {mean : ExcName → Option Value} {mg mb : Str → Option Value} (dp un : Nat) (gd : Option (List Code)) (cn : Str) (cs : Scope) (a : Addr) (ccd : Value) (cl : List (Str × Addr)) (outer : List Env) (A₀ : Around) (base h₀ : Heap) (L : Addr) (m : Str → Option Value) (s : Shared) (Q E : Value → Shared → Prop)
    (l : Addr) (x y t : Int) (tx ty tt : Tok) (n : Nat)
    (B : Below A₀ base outer h₀) (F : Fr h₀ L s.heap m) (X : (Tr.pre.heap_1_39 w.params).In h₀) (N : News h₀ L s.heap [(l, listOf [.int x tx, .int y ty].toArray n)])
    (T : Top Tr.pre.view_1_40 (looseW Tr.pre.view_1_40 [Str.ofString "Sender", Str.ofString "Tcb"]) mean mg mb h₀) (hk : cs.kind = .function)
    (hdp : dp + 1 < recursionLimit) (hx : 0 ≤ x) (hy : 0 ≤ y) (hy2 : y < 2147483647) (ht : 0 < t) (ht2 : t ≤ 64)
    (hret : ∀ k tk x' y' tx' ty' n' h' tk', 0 ≤ k → k < t → 0 ≤ x' → 0 ≤ y' → y' < 2147483647 → KeepBut s.heap h' [l] → NewOr s.heap [l] [(l, listOf [.int x' tx', .int y' ty'].toArray n')] → Fr h₀ L h' m → News h₀ L h' [(l, listOf [.int x' tx', .int y' ty'].toArray n')] → Q (.int k tk) { s with heap := h', toks := tk' }) :
    wpAny (model Challenge.rw_xw0347_01.row.prog w) (ktrTop dp un gd cn cs L a ccd cl outer) (call (.ref 1066) [.ref l, .int t tt]) Q E s := by
  revert X; k_fill; intro X
  refine wpAny_call ?_
  k_dflt (refine' code_defF ?k1 ?k2 ?k3 ?k4 ?k5 ?kA ?kF ?kK ?k6 ?k7 ?k8 ?k9 ?kB ?_ ?c2 ?c3 ?c4 ?c5; (case kA => exact rfl); (case kF => exact rfl); (case kK => assumption); (case k1 => k_asm); (case k2 => k_asm); (case k3 => k_asm); (case k4 => k_asm); (case k5 => k_asm); (case k6 => k_is); (case k7 => k_is); (case k8 => ktr_room); (case k9 => exact BindsTo.of_eq rfl); (case c5 => decide); (case kB => exact locs rfl); (case c2 => exact rfl); (case c3 => exact rfl); (case c4 => exact rfl); k_whole)
  intro g0 L0 h0 FG0 F0 N0 B0 X0 T0 hg
  (try dsimp only)
  (try k_fold)
  k_steps
  · refine' hret _ _ _ _ _ _ _ _ _ (fmod_lo _ ht) (fmod_hi _ ht) (Int.fdiv_nonneg hx (Int.le_of_lt ht)) hy hy2 ?f ?g ?d ?e; (case e => k_asm); (case d => k_asm); (case f => refine' (frame_end (g := g0) (L' := L0) (foot := []) ?fe1 ?fe2 (fun _ hq => nomatch hq) hg).1; (case fe1 => assumption); (case fe2 => assumption)); (case g => refine' (frame_end (g := g0) (L' := L0) ?fe1 ?fe2 ?fe3 hg).2; (case fe1 => assumption); (case fe2 => assumption); (case fe3 => exact fun _ hq => hq))
  · refine' hret _ _ _ _ _ _ _ _ _ (fmod_lo _ ht) (fmod_hi _ ht) hx (fmod_lo _ (by decide)) (fmod_hi _ (by decide)) ?f ?g ?d ?e; (case e => k_asm); (case d => k_asm); (case f => refine' (frame_end (g := g0) (L' := L0) (foot := []) ?fe1 ?fe2 (fun _ hq => nomatch hq) hg).1; (case fe1 => assumption); (case fe2 => assumption)); (case g => refine' (frame_end (g := g0) (L' := L0) ?fe1 ?fe2 ?fe3 hg).2; (case fe1 => assumption); (case fe2 => assumption); (case fe3 => exact fun _ hq => hq))
theorem upd_after {h₀ h h' : Heap} {L l : Addr} {o o' : Obj} {news : List (Addr × Obj)} {g : Obj → List (Addr × Obj)} (N : News h₀ L h news) (U : UpdF l o news g) (kb : KeepBut h h' [l]) (N' : News h₀ L h' [(l, o')]) : News h₀ L h' (g o') := by
  obtain ⟨pre, post, rfl, hg, a, b⟩ := U.split
  rw [hg]
  intro p hp
  have old : ∀ p ∈ pre ++ (l, o) :: post, p.1 ≠ l → News h₀ L h' [p] := fun p hp hn q hq => by
    rw [List.mem_singleton.mp hq]
    have z := N p hp
    exact ⟨kb _ _ z.1 (fun hm => hn (List.mem_singleton.mp hm)), z.2⟩
  rcases List.mem_append.mp hp with hp | hp
  · exact old p (List.mem_append_left _ hp) (a p hp) p (.head _)
  · rcases List.mem_cons.mp hp with rfl | hp
    · exact N' _ (.head _)
    · exact old p (List.mem_append_right _ (.tail _ hp)) (b p hp) p (.head _)
theorem takeW {w : World} {mean : ExcName → Option Value} {mg mb : Str → Option Value} (dp un : Nat) (gd : Option (List Code)) (cn : Str) (cs : Scope) (a : Addr) (ccd : Value) (cl : List (Str × Addr)) (outer : List Env) (A₀ : Around) (base h₀ : Heap) (L : Addr) (m : Str → Option Value) (s : Shared) (Q E : Value → Shared → Prop)
    (l : Addr) (x y t : Int) (tx ty tt : Tok) (n : Nat) (news : List (Addr × Obj)) (g : Obj → List (Addr × Obj))
    (B : Below A₀ base outer h₀) (F : Fr h₀ L s.heap m) (X : (Tr.pre.heap_1_39 w.params).In h₀) (N : News h₀ L s.heap news)
    (T : Top Tr.pre.view_1_40 (looseW Tr.pre.view_1_40 [Str.ofString "Sender", Str.ofString "Tcb"]) mean mg mb h₀) (hk : cs.kind = .function) (hdp : dp + 1 < recursionLimit) (U : UpdF l (listOf [.int x tx, .int y ty].toArray n) news g) (hx : 0 ≤ x) (hy : 0 ≤ y) (hy2 : y < 2147483647) (ht : 0 < t) (ht2 : t ≤ 64)
    (hret : ∀ k tk x' y' tx' ty' n' h' tk', 0 ≤ k → k < t → 0 ≤ x' → 0 ≤ y' → y' < 2147483647 → Fr h₀ L h' m → News h₀ L h' (g (listOf [.int x' tx', .int y' ty'].toArray n')) → Q (.int k tk) { s with heap := h', toks := tk' }) :
    wpAny (model Challenge.rw_xw0347_01.row.prog w) (ktrTop dp un gd cn cs L a ccd cl outer) (call (.ref 1066) [.ref l, .int t tt]) Q E s := by
  have hin : (l, listOf [.int x tx, .int y ty].toArray n) ∈ news := by obtain ⟨pre, post, rfl, _⟩ := U.split; exact List.mem_append_right _ (.head _)
  refine take_ok dp un gd cn cs a ccd cl outer A₀ base h₀ L m s Q E l x y t tx ty tt n B F X (fun p hp => by rw [List.mem_singleton.mp hp]; exact N _ hin) T hk hdp hx hy hy2 ht ht2 (fun k tk x' y' tx' ty' n' h' tk' a1 a2 a3 a4 a5 kb _ F' N' => hret k tk x' y' tx' ty' n' h' tk' a1 a2 a3 a4 a5 F' (upd_after N U kb N'))
end
-- T2
section
theorem rowsT2x1 : True := by
  k_with_none
  k_with "data" => (repeat ((fail_if_success (refine Classical.byContradiction ?_)); rotate_left))
  k_with "callWith ref" => (k_here; k_dflt (refine' callWith_K (by with_reducible assumption) (by k_is) ?_; k_whole))
  k_with "callWith ref" => (k_here; (with_reducible show wpAny _ _ (callWith _ _ _ (backTo _ (starEach [] _)) []) _ _ _); (with_reducible rename Fr _ _ _ _ => kF); k_dflt (refine' callWith_K0 (Frag.In.keeps (by with_reducible assumption) (Fr.keep kF)) (by k_is) ?_; k_whole))
  k_with "compareOp In int ref" => (k_here; k_dflt (refine' kda_in (knd := PySem.intKind _ _) (by k_asm) (by k_mem) (by k_asm) (by k_asm) (intKind_is _ _ _ _) _ (by assumption) ?_))
  k_with "compareOp In int ref" => (k_here; k_dflt (refine' in_ints_K (by k_asm) (by k_mem) (by assumption) ?_))
  k_with "compareOp In int ref" => (k_here; k_dflt (refine' in_ints_K (by k_asm) (by k_mem) IntsAre.nil ?_); (try dsimp only [List.any_nil]))
  k_with "getItem ref int" => (k_here; (with_reducible show wpAny _ _ (getItem (Value.ref _) (Value.int _ _)) _ _ _); k_dflt (refine' dget_K (knd := PySem.intKind _ _) (by k_asm) (by k_mem) (by k_asm) (intKind_is _ _ _ _) (by assumption) ?_; k_whole))
  k_with "setItem ref int" => (k_here; (with_reducible show wpAny _ _ (setItem (Value.ref _) (Value.int _ _) (Value.ref _)) _ _ _); k_dflt (refine' kda_set (knd := PySem.intKind _ _) (by k_asm) (by k_asm) (by k_updF) (by assumption) (intKind_is _ _ _ _) (by assumption) ?_); intro h' o' F' N' hd'; (try dsimp only at N'); (try k_sweep))
  k_with "call builtin:dict.pop" => (k_here; (with_reducible show wpAny _ _ (call (Value.builtin "dict.pop") [Value.ref _, Value.int _ _]) _ _ _); k_dflt (refine' kob_pop (knd := PySem.intKind _ _) (more := []) (by k_asm) (by k_asm) (by k_updF) (by k_asm) (intKind_is _ _ _ _) (.inl rfl) (by rfl) (PySem.F.args_dict_pop_2 _ _) (by assumption) (by assumption) ?_); intro h' o' F' N' hd'; (try dsimp only at N'); (try k_sweep))
  k_with "subscriptTail" => (k_here; (with_reducible show wpAny _ _ (subscriptTail _ _ (Value.ref _) (Value.int 0 _)) _ _ _); k_dflt (refine' it_tup0 (by k_asm) (by assumption) ?_ (by with_unfolding_all rfl)))
  k_with "subscriptTail Name Name ref int" => (k_here; (with_reducible show wpAny _ _ (subscriptTail _ _ (Value.ref _) (Value.int _ _)) _ _ _); k_dflt (refine kda_item (knd := PySem.intKind _ _) (by k_asm) (by assumption) (by assumption) (intKind_is _ _ _ _) (by assumption) ?_))
  k_with "call builtin:list.remove" => (k_here; k_dflt (refine' remove_K (by k_asm) (by k_asm) (by k_updF) (by assumption) (by assumption) (by assumption) ?_); intro h' vs' ns' n' F' N' hi' hl'; (try dsimp only at N'); (try k_sweep))
  k_with "subscriptTail Name BinOp ref int" => (k_here; (with_reducible show wpAny _ _ (subscriptTail _ _ (Value.ref _) (Value.int _ _)) _ _ _); k_dflt (refine' it_lit (by k_asm) (by k_mem) (by exact fmod_lo _ (by decide)) (by exact Int.lt_trans (fmod_hi _ (by decide)) (by decide)) (by assumption) ?_ (by with_unfolding_all rfl); k_whole))
  exact True.intro
set_option maxRecDepth 100000 in
set_option maxHeartbeats 8000000 in
theorem cancel_none {w : World} {mean : ExcName → Option Value} {mg mb : Str → Option Value} (dp un : Nat) (gd : Option (List Code)) (cn : Str) (cs : Scope) (a : Addr) (ccd : Value) (cl : List (Str × Addr)) (outer : List Env) (A₀ : Around) (base h₀ : Heap) (L : Addr) (m : Str → Option Value) (s : Shared) (Q E : Value → Shared → Prop)
    (whl wd sl lt en : Addr) (k1 k2 k3 k4 k5 k6 tz tg : Tok) (gv : Int) (oe : Obj) (kvs : List (Int × Value)) (key : Int) (tk : Tok) (news : List (Addr × Obj))
    (B : Below A₀ base outer h₀) (F : Fr h₀ L s.heap m) (X : (Tr.pre.heap_1_39 w.params).In h₀) (N : News h₀ L s.heap news)
    (T : Top Tr.pre.view_1_40 (looseW Tr.pre.view_1_40 [Str.ofString "Sender", Str.ofString "Tcb"]) mean mg mb h₀) (hk : cs.kind = .function)
    (hdp : dp + 1 < recursionLimit) (m0 : (whl, instObj 740 wd) ∈ news) (m1 : (wd, dictOf [⟨PyData.keyHash w.params (Str.ofString "size"), .str (Str.ofString "size") k1, .int 16 tz⟩, ⟨PyData.keyHash w.params (Str.ofString "slots"), .str (Str.ofString "slots") k2, .ref sl⟩, ⟨PyData.keyHash w.params (Str.ofString "late"), .str (Str.ofString "late") k3, .ref lt⟩, ⟨PyData.keyHash w.params (Str.ofString "entries"), .str (Str.ofString "entries") k4, .ref en⟩, ⟨PyData.keyHash w.params (Str.ofString "reached"), .str (Str.ofString "reached") k5, .none⟩, ⟨PyData.keyHash w.params (Str.ofString "given"), .str (Str.ofString "given") k6, .int gv tg⟩] 6) ∈ news) (m2 : (en, oe) ∈ news) (hd0 : oe.IsDictOf (PySem.intKind Challenge.rw_xw0347_01.row.prog w) kvs) (lo : (en == sysModules) = false) (hv : (valueAt kvs key).isSome = false)
    (hret : ∀  h' tk', Fr h₀ L h' m → News h₀ L h' news → Q .none { s with heap := h', toks := tk' }) :
    wpAny (model Challenge.rw_xw0347_01.row.prog w) (ktrTop dp un gd cn cs L a ccd cl outer) (call (.ref 711) [.ref whl, .int key tk]) Q E s := by
  revert X; k_fill; intro X
  refine wpAny_call ?_
  k_dflt ktr_enter
  k_steps
  exact hret _ _ (by k_asm) (by k_asm)
set_option maxRecDepth 100000 in
set_option maxHeartbeats 8000000 in
theorem cancel_some {w : World} {mean : ExcName → Option Value} {mg mb : Str → Option Value} (dp un : Nat) (gd : Option (List Code)) (cn : Str) (cs : Scope) (a : Addr) (ccd : Value) (cl : List (Str × Addr)) (outer : List Env) (A₀ : Around) (base h₀ : Heap) (L : Addr) (m : Str → Option Value) (s : Shared) (Q E : Value → Shared → Prop)
    (whl wd sl lt en : Addr) (k1 k2 k3 k4 k5 k6 tz tg : Tok) (gv : Int) (oe : Obj) (kvs : List (Int × Value)) (key : Int) (tk : Tok) (ta x : Addr) (t gt : Int) (t1 t2 : Tok) (nt n1 n2 n3 : Nat) (svs vs : List Value) (ns : List Int)
    (B : Below A₀ base outer h₀) (F : Fr h₀ L s.heap m) (X : (Tr.pre.heap_1_39 w.params).In h₀) (N : News h₀ L s.heap [(whl, instObj 740 wd), (wd, dictOf [⟨PyData.keyHash w.params (Str.ofString "size"), .str (Str.ofString "size") k1, .int 16 tz⟩, ⟨PyData.keyHash w.params (Str.ofString "slots"), .str (Str.ofString "slots") k2, .ref sl⟩, ⟨PyData.keyHash w.params (Str.ofString "late"), .str (Str.ofString "late") k3, .ref lt⟩, ⟨PyData.keyHash w.params (Str.ofString "entries"), .str (Str.ofString "entries") k4, .ref en⟩, ⟨PyData.keyHash w.params (Str.ofString "reached"), .str (Str.ofString "reached") k5, .none⟩, ⟨PyData.keyHash w.params (Str.ofString "given"), .str (Str.ofString "given") k6, .int gv tg⟩] 6), (en, oe), (sl, listOf svs.toArray n1), (lt, listOf [].toArray n2), (ta, ⟨.type "tuple", none, .seq [.int t t1, .int gt t2].toArray nt, #[]⟩), (x, listOf vs.toArray n3)])
    (T : Top Tr.pre.view_1_40 (looseW Tr.pre.view_1_40 [Str.ofString "Sender", Str.ofString "Tcb"]) mean mg mb h₀) (hk : cs.kind = .function)
    (hdp : dp + 1 < recursionLimit) (hd0 : oe.IsDictOf (PySem.intKind Challenge.rw_xw0347_01.row.prog w) kvs) (lo : (en == sysModules) = false) (hv0 : valueAt kvs key = some (.ref ta)) (hv : (valueAt kvs key).isSome = true) (hz : kvs.length ≤ sizeLine) (hx : svs[(t.fmod 16).toNat]? = some (.ref x)) (hi : IntsAre vs ns) (hz2 : vs.length ≤ sizeLine) (d0 : @Ne Nat en whl) (d1 : @Ne Nat en wd) (d2 : @Ne Nat en sl) (d3 : @Ne Nat en lt) (d4 : @Ne Nat en ta) (d5 : @Ne Nat en x) (d6 : @Ne Nat x whl) (d7 : @Ne Nat x wd) (d8 : @Ne Nat x sl) (d9 : @Ne Nat x lt) (d10 : @Ne Nat x ta)
    (hret : ∀ o' vs' ns' n' h' tk', o'.IsDictOf (PySem.intKind Challenge.rw_xw0347_01.row.prog w) (without kvs key) → IntsAre vs' ns' → vs'.length ≤ vs.length → KeepBut s.heap h' [whl, wd, en, sl, lt, ta, x] → NewOr s.heap [whl, wd, en, sl, lt, ta, x] [(whl, instObj 740 wd), (wd, dictOf [⟨PyData.keyHash w.params (Str.ofString "size"), .str (Str.ofString "size") k1, .int 16 tz⟩, ⟨PyData.keyHash w.params (Str.ofString "slots"), .str (Str.ofString "slots") k2, .ref sl⟩, ⟨PyData.keyHash w.params (Str.ofString "late"), .str (Str.ofString "late") k3, .ref lt⟩, ⟨PyData.keyHash w.params (Str.ofString "entries"), .str (Str.ofString "entries") k4, .ref en⟩, ⟨PyData.keyHash w.params (Str.ofString "reached"), .str (Str.ofString "reached") k5, .none⟩, ⟨PyData.keyHash w.params (Str.ofString "given"), .str (Str.ofString "given") k6, .int gv tg⟩] 6), (en, o'), (sl, listOf svs.toArray n1), (lt, listOf [].toArray n2), (ta, ⟨.type "tuple", none, .seq [.int t t1, .int gt t2].toArray nt, #[]⟩), (x, listOf vs'.toArray n')] → Fr h₀ L h' m → News h₀ L h' [(whl, instObj 740 wd), (wd, dictOf [⟨PyData.keyHash w.params (Str.ofString "size"), .str (Str.ofString "size") k1, .int 16 tz⟩, ⟨PyData.keyHash w.params (Str.ofString "slots"), .str (Str.ofString "slots") k2, .ref sl⟩, ⟨PyData.keyHash w.params (Str.ofString "late"), .str (Str.ofString "late") k3, .ref lt⟩, ⟨PyData.keyHash w.params (Str.ofString "entries"), .str (Str.ofString "entries") k4, .ref en⟩, ⟨PyData.keyHash w.params (Str.ofString "reached"), .str (Str.ofString "reached") k5, .none⟩, ⟨PyData.keyHash w.params (Str.ofString "given"), .str (Str.ofString "given") k6, .int gv tg⟩] 6), (en, o'), (sl, listOf svs.toArray n1), (lt, listOf [].toArray n2), (ta, ⟨.type "tuple", none, .seq [.int t t1, .int gt t2].toArray nt, #[]⟩), (x, listOf vs'.toArray n')] → Q .none { s with heap := h', toks := tk' }) :
    wpAny (model Challenge.rw_xw0347_01.row.prog w) (ktrTop dp un gd cn cs L a ccd cl outer) (call (.ref 711) [.ref whl, .int key tk]) Q E s := by
  revert X; k_fill; intro X
  refine wpAny_call ?_
  k_dflt (refine' code_defF ?k1 ?k2 ?k3 ?k4 ?k5 ?kA ?kF ?kK ?k6 ?k7 ?k8 ?k9 ?kB ?_ ?c2 ?c3 ?c4 ?c5; (case kA => exact rfl); (case kF => exact rfl); (case kK => assumption); (case k1 => k_asm); (case k2 => k_asm); (case k3 => k_asm); (case k4 => k_asm); (case k5 => k_asm); (case k6 => k_is); (case k7 => k_is); (case k8 => ktr_room); (case k9 => exact BindsTo.of_eq rfl); (case c5 => decide); (case kB => exact locs rfl); (case c2 => exact rfl); (case c3 => exact rfl); (case c4 => exact rfl); k_whole)
  intro g0 L0 h0 FG0 F0 N0 B0 X0 T0 hg
  (try dsimp only)
  (try k_fold)
  k_steps
  · refine' hret _ _ _ _ _ _ ?a ?b ?c ?f ?g ?d ?e; (case e => refine' news_tl ?z; (case z => k_asm)); (case d => k_asm); (case a => assumption); (case b => assumption); (case c => assumption); (case f => refine' (frame_end (g := g0) (L' := L0) (foot := []) ?fe1 ?fe2 (fun _ hq => nomatch hq) hg).1; (case fe1 => assumption); (case fe2 => assumption)); (case g => refine' (frame_end (g := g0) (L' := L0) ?fe1 ?fe2 ?fe3 hg).2; (case fe1 => assumption); (case fe2 => assumption); (case fe3 => exact fun _ hq => List.Mem.tail _ hq))
  · refine' hret _ _ _ _ _ _ ?a ?b ?c ?f ?g ?d ?e; (case e => refine' news_tl ?z; (case z => k_asm)); (case d => k_asm); (case a => assumption); (case b => assumption); (case c => exact Nat.le_refl _); (case f => refine' (frame_end (g := g0) (L' := L0) (foot := []) ?fe1 ?fe2 (fun _ hq => nomatch hq) hg).1; (case fe1 => assumption); (case fe2 => assumption)); (case g => refine' (frame_end (g := g0) (L' := L0) ?fe1 ?fe2 ?fe3 hg).2; (case fe1 => assumption); (case fe2 => assumption); (case fe3 => exact fun _ hq => List.Mem.tail _ hq))
set_option maxRecDepth 100000 in
set_option maxHeartbeats 8000000 in
theorem time_none {w : World} {mean : ExcName → Option Value} {mg mb : Str → Option Value} (dp un : Nat) (gd : Option (List Code)) (cn : Str) (cs : Scope) (a : Addr) (ccd : Value) (cl : List (Str × Addr)) (outer : List Env) (A₀ : Around) (base h₀ : Heap) (L : Addr) (m : Str → Option Value) (s : Shared) (Q E : Value → Shared → Prop)
    (whl wd sl lt en : Addr) (k1 k2 k3 k4 k5 k6 tz tg : Tok) (gv : Int) (oe : Obj) (kvs : List (Int × Value)) (key : Int) (tk : Tok) (news : List (Addr × Obj))
    (B : Below A₀ base outer h₀) (F : Fr h₀ L s.heap m) (X : (Tr.pre.heap_1_39 w.params).In h₀) (N : News h₀ L s.heap news)
    (T : Top Tr.pre.view_1_40 (looseW Tr.pre.view_1_40 [Str.ofString "Sender", Str.ofString "Tcb"]) mean mg mb h₀) (hk : cs.kind = .function)
    (hdp : dp + 1 < recursionLimit) (m0 : (whl, instObj 740 wd) ∈ news) (m1 : (wd, dictOf [⟨PyData.keyHash w.params (Str.ofString "size"), .str (Str.ofString "size") k1, .int 16 tz⟩, ⟨PyData.keyHash w.params (Str.ofString "slots"), .str (Str.ofString "slots") k2, .ref sl⟩, ⟨PyData.keyHash w.params (Str.ofString "late"), .str (Str.ofString "late") k3, .ref lt⟩, ⟨PyData.keyHash w.params (Str.ofString "entries"), .str (Str.ofString "entries") k4, .ref en⟩, ⟨PyData.keyHash w.params (Str.ofString "reached"), .str (Str.ofString "reached") k5, .none⟩, ⟨PyData.keyHash w.params (Str.ofString "given"), .str (Str.ofString "given") k6, .int gv tg⟩] 6) ∈ news) (m2 : (en, oe) ∈ news) (hd0 : oe.IsDictOf (PySem.intKind Challenge.rw_xw0347_01.row.prog w) kvs) (lo : (en == sysModules) = false) (hv : (valueAt kvs key).isSome = false)
    (hret : ∀  h' tk', Fr h₀ L h' m → News h₀ L h' news → Q .none { s with heap := h', toks := tk' }) :
    wpAny (model Challenge.rw_xw0347_01.row.prog w) (ktrTop dp un gd cn cs L a ccd cl outer) (call (.ref 718) [.ref whl, .int key tk]) Q E s := by
  revert X; k_fill; intro X
  refine wpAny_call ?_
  k_dflt ktr_enter
  k_steps
  exact hret _ _ (by k_asm) (by k_asm)
set_option maxRecDepth 100000 in
set_option maxHeartbeats 8000000 in
theorem time_some {w : World} {mean : ExcName → Option Value} {mg mb : Str → Option Value} (dp un : Nat) (gd : Option (List Code)) (cn : Str) (cs : Scope) (a : Addr) (ccd : Value) (cl : List (Str × Addr)) (outer : List Env) (A₀ : Around) (base h₀ : Heap) (L : Addr) (m : Str → Option Value) (s : Shared) (Q E : Value → Shared → Prop)
    (whl wd sl lt en : Addr) (k1 k2 k3 k4 k5 k6 tz tg : Tok) (gv : Int) (oe : Obj) (kvs : List (Int × Value)) (key : Int) (tk : Tok) (ta : Addr) (t gt : Int) (t1 t2 : Tok) (nt : Nat) (news : List (Addr × Obj))
    (B : Below A₀ base outer h₀) (F : Fr h₀ L s.heap m) (X : (Tr.pre.heap_1_39 w.params).In h₀) (N : News h₀ L s.heap news)
    (T : Top Tr.pre.view_1_40 (looseW Tr.pre.view_1_40 [Str.ofString "Sender", Str.ofString "Tcb"]) mean mg mb h₀) (hk : cs.kind = .function)
    (hdp : dp + 1 < recursionLimit) (m0 : (whl, instObj 740 wd) ∈ news) (m1 : (wd, dictOf [⟨PyData.keyHash w.params (Str.ofString "size"), .str (Str.ofString "size") k1, .int 16 tz⟩, ⟨PyData.keyHash w.params (Str.ofString "slots"), .str (Str.ofString "slots") k2, .ref sl⟩, ⟨PyData.keyHash w.params (Str.ofString "late"), .str (Str.ofString "late") k3, .ref lt⟩, ⟨PyData.keyHash w.params (Str.ofString "entries"), .str (Str.ofString "entries") k4, .ref en⟩, ⟨PyData.keyHash w.params (Str.ofString "reached"), .str (Str.ofString "reached") k5, .none⟩, ⟨PyData.keyHash w.params (Str.ofString "given"), .str (Str.ofString "given") k6, .int gv tg⟩] 6) ∈ news) (m2 : (en, oe) ∈ news) (m3 : (ta, ⟨.type "tuple", none, .seq [.int t t1, .int gt t2].toArray nt, #[]⟩) ∈ news) (hd0 : oe.IsDictOf (PySem.intKind Challenge.rw_xw0347_01.row.prog w) kvs) (lo : (en == sysModules) = false) (hv0 : valueAt kvs key = some (.ref ta)) (hv : (valueAt kvs key).isSome = true)
    (hret : ∀  h' tk', Fr h₀ L h' m → News h₀ L h' news → Q (.int t t1) { s with heap := h', toks := tk' }) :
    wpAny (model Challenge.rw_xw0347_01.row.prog w) (ktrTop dp un gd cn cs L a ccd cl outer) (call (.ref 718) [.ref whl, .int key tk]) Q E s := by
  revert X; k_fill; intro X
  refine wpAny_call ?_
  k_dflt ktr_enter
  k_steps
  exact hret _ _ (by k_asm) (by k_asm)
set_option maxRecDepth 100000 in
set_option maxHeartbeats 8000000 in
theorem put_new {w : World} {mean : ExcName → Option Value} {mg mb : Str → Option Value} (dp un : Nat) (gd : Option (List Code)) (cn : Str) (cs : Scope) (a : Addr) (ccd : Value) (cl : List (Str × Addr)) (outer : List Env) (A₀ : Around) (base h₀ : Heap) (L : Addr) (m : Str → Option Value) (s : Shared) (Q E : Value → Shared → Prop)
    (whl wd sl lt en : Addr) (k1 k2 k3 k4 k5 k6 tz tg : Tok) (gv : Int) (oe : Obj) (kvs : List (Int × Value)) (key t : Int) (tk tt : Tok) (x : Addr) (n1 n2 n3 : Nat) (svs vs : List Value) (ns : List Int)
    (B : Below A₀ base outer h₀) (F : Fr h₀ L s.heap m) (X : (Tr.pre.heap_1_39 w.params).In h₀) (N : News h₀ L s.heap [(whl, instObj 740 wd), (wd, dictOf [⟨PyData.keyHash w.params (Str.ofString "size"), .str (Str.ofString "size") k1, .int 16 tz⟩, ⟨PyData.keyHash w.params (Str.ofString "slots"), .str (Str.ofString "slots") k2, .ref sl⟩, ⟨PyData.keyHash w.params (Str.ofString "late"), .str (Str.ofString "late") k3, .ref lt⟩, ⟨PyData.keyHash w.params (Str.ofString "entries"), .str (Str.ofString "entries") k4, .ref en⟩, ⟨PyData.keyHash w.params (Str.ofString "reached"), .str (Str.ofString "reached") k5, .none⟩, ⟨PyData.keyHash w.params (Str.ofString "given"), .str (Str.ofString "given") k6, .int gv tg⟩] 6), (en, oe), (sl, listOf svs.toArray n1), (lt, listOf [].toArray n2), (x, listOf vs.toArray n3)])
    (T : Top Tr.pre.view_1_40 (looseW Tr.pre.view_1_40 [Str.ofString "Sender", Str.ofString "Tcb"]) mean mg mb h₀) (hk : cs.kind = .function)
    (hdp : dp + 1 < recursionLimit) (hd0 : oe.IsDictOf (PySem.intKind Challenge.rw_xw0347_01.row.prog w) kvs) (lo : (en == sysModules) = false) (hv : (valueAt kvs key).isSome = false) (hz : kvs.length ≤ sizeLine) (hx : svs[(t.fmod 16).toNat]? = some (.ref x)) (hi : IntsAre vs ns) (hz2 : vs.length ≤ sizeLine) (d0 : @Ne Nat en whl) (d1 : @Ne Nat en wd) (d2 : @Ne Nat en sl) (d3 : @Ne Nat en lt) (d4 : @Ne Nat en x) (d5 : @Ne Nat x whl) (d6 : @Ne Nat x wd) (d7 : @Ne Nat x sl) (d8 : @Ne Nat x lt) (d9 : @Ne Nat wd whl) (d10 : @Ne Nat wd sl) (d11 : @Ne Nat wd lt)
    (hret : ∀ o' ta tg' t2 nt h' tk', o'.IsDictOf (PySem.intKind Challenge.rw_xw0347_01.row.prog w) (stored kvs key (.ref ta)) → KeepBut s.heap h' [whl, wd, en, sl, lt, x] → NewOr s.heap [whl, wd, en, sl, lt, x] [(ta, ⟨.type "tuple", none, .seq [.int t tt, .int (gv + 1) t2].toArray nt, #[]⟩), (whl, instObj 740 wd), (wd, dictOf [⟨PyData.keyHash w.params (Str.ofString "size"), .str (Str.ofString "size") k1, .int 16 tz⟩, ⟨PyData.keyHash w.params (Str.ofString "slots"), .str (Str.ofString "slots") k2, .ref sl⟩, ⟨PyData.keyHash w.params (Str.ofString "late"), .str (Str.ofString "late") k3, .ref lt⟩, ⟨PyData.keyHash w.params (Str.ofString "entries"), .str (Str.ofString "entries") k4, .ref en⟩, ⟨PyData.keyHash w.params (Str.ofString "reached"), .str (Str.ofString "reached") k5, .none⟩, ⟨PyData.keyHash w.params (Str.ofString "given"), .str (Str.ofString "given") k6, .int (gv + 1) tg'⟩] 6), (en, o'), (sl, listOf svs.toArray n1), (lt, listOf [].toArray n2), (x, listOf (vs.toArray.push (Value.int key tk)) (n3 + 1))] → Fr h₀ L h' m → News h₀ L h' [(ta, ⟨.type "tuple", none, .seq [.int t tt, .int (gv + 1) t2].toArray nt, #[]⟩), (whl, instObj 740 wd), (wd, dictOf [⟨PyData.keyHash w.params (Str.ofString "size"), .str (Str.ofString "size") k1, .int 16 tz⟩, ⟨PyData.keyHash w.params (Str.ofString "slots"), .str (Str.ofString "slots") k2, .ref sl⟩, ⟨PyData.keyHash w.params (Str.ofString "late"), .str (Str.ofString "late") k3, .ref lt⟩, ⟨PyData.keyHash w.params (Str.ofString "entries"), .str (Str.ofString "entries") k4, .ref en⟩, ⟨PyData.keyHash w.params (Str.ofString "reached"), .str (Str.ofString "reached") k5, .none⟩, ⟨PyData.keyHash w.params (Str.ofString "given"), .str (Str.ofString "given") k6, .int (gv + 1) tg'⟩] 6), (en, o'), (sl, listOf svs.toArray n1), (lt, listOf [].toArray n2), (x, listOf (vs.toArray.push (Value.int key tk)) (n3 + 1))] → Q .none { s with heap := h', toks := tk' }) :
    wpAny (model Challenge.rw_xw0347_01.row.prog w) (ktrTop dp un gd cn cs L a ccd cl outer) (call (.ref 697) [.ref whl, .int key tk, .int t tt]) Q E s := by
  revert X; k_fill; intro X
  refine wpAny_call ?_
  k_dflt (refine' code_defF ?k1 ?k2 ?k3 ?k4 ?k5 ?kA ?kF ?kK ?k6 ?k7 ?k8 ?k9 ?kB ?_ ?c2 ?c3 ?c4 ?c5; (case kA => exact rfl); (case kF => exact rfl); (case kK => assumption); (case k1 => k_asm); (case k2 => k_asm); (case k3 => k_asm); (case k4 => k_asm); (case k5 => k_asm); (case k6 => k_is); (case k7 => k_is); (case k8 => ktr_room); (case k9 => exact BindsTo.of_eq rfl); (case c5 => decide); (case kB => exact locs rfl); (case c2 => exact rfl); (case c3 => exact rfl); (case c4 => exact rfl); k_whole)
  intro g0 L0 h0 FG0 F0 N0 B0 X0 T0 hg
  (try dsimp only)
  (try k_fold)
  k_steps
  refine' hret _ _ _ _ _ _ _ ?a ?f ?g ?d ?e; (case e => k_asm); (case d => k_asm); (case a => assumption); (case f => refine' (frame_end (g := g0) (L' := L0) (foot := []) ?fe1 ?fe2 (fun _ hq => nomatch hq) hg).1; (case fe1 => assumption); (case fe2 => assumption)); (case g => refine' (frame_end (g := g0) (L' := L0) ?fe1 ?fe2 ?fe3 hg).2; (case fe1 => assumption); (case fe2 => assumption); (case fe3 => exact fun _ hq => hq))
end
-- T3
section
theorem rowsT3x1 : True := by
  k_with_none
  k_with "data" => (repeat ((fail_if_success (refine Classical.byContradiction ?_)); rotate_left))
  k_with "callWith ref" => (k_here; k_dflt (refine' callWith_K (by with_reducible assumption) (by k_is) ?_; k_whole))
  k_with "callWith ref" => (k_here; (with_reducible show wpAny _ _ (callWith _ _ _ (backTo _ (starEach [] _)) []) _ _ _); (with_reducible rename Fr _ _ _ _ => kF); k_dflt (refine' callWith_K0 (Frag.In.keeps (by with_reducible assumption) (Fr.keep kF)) (by k_is) ?_; k_whole))
  k_with "call builtin:min" => (k_here; (with_reducible show wpAny _ _ (call (Value.builtin _) [Value.int _ _, Value.int _ _]) _ _ _); (with_unfolding_all refine' min2_K (by with_unfolding_all rfl) (by k_asm) (by k_asm) ?_; k_whole); (intro h' tk' r9 tr9 hr1 hr2 hr3 F' N'); (try k_sweep))
  k_with "call builtin:max" => (k_here; (with_reducible show wpAny _ _ (call (Value.builtin _) [Value.int _ _, Value.int _ _]) _ _ _); (with_unfolding_all refine' max2_K (by with_unfolding_all rfl) (by k_asm) (by k_asm) ?_; k_whole); (intro h' tk' r9 tr9 hr1 hr2 hr3 F' N'); (try k_sweep))
  k_with "call builtin:min" => (k_here; (with_reducible show wpAny _ _ (call (Value.builtin _) [Value.int _ _, Value.int _ _, Value.int _ _]) _ _ _); (with_unfolding_all refine' min3_K (by with_unfolding_all rfl) (by k_asm) (by k_asm) ?_; k_whole); (intro h' tk' r9 tr9 hr1 hr2 hr3 hr4 F' N'); (try k_sweep))
  exact True.intro
noncomputable def prb (fin : Bool) (rest win mo : Int) : Bool :=
  if rest = 0 then (fin && decide (win = 0))
  else decide (win = 0 ∨ (win < 4 ∧ win < rest ∧ 2 * win < mo))
set_option maxRecDepth 100000 in
set_option maxHeartbeats 8000000 in
theorem flight_ok {w : World} {mean : ExcName → Option Value} {mg mb : Str → Option Value} (dp un : Nat) (gd : Option (List Code)) (cn : Str) (cs : Scope) (a : Addr) (ccd : Value) (cl : List (Str × Addr)) (outer : List Env) (A₀ : Around) (base h₀ : Heap) (L : Addr) (m : Str → Option Value) (s : Shared) (Q E : Value → Shared → Prop)
    (snd sd pe qu : Addr) (k1 k2 k3 k4 k5 k6 k7 k8 k9 k10 k11 ti tr tm tu tn tg : Tok) (ii ui nx gr : Int) (fin : Bool) (syn : Bool) (news : List (Addr × Obj))
    (B : Below A₀ base outer h₀) (F : Fr h₀ L s.heap m) (X : (Tr.pre.heap_1_39 w.params).In h₀) (N : News h₀ L s.heap news)
    (T : Top Tr.pre.view_1_40 (looseW Tr.pre.view_1_40 [Str.ofString "Sender", Str.ofString "Tcb"]) mean mg mb h₀) (hk : cs.kind = .function)
    (hdp : dp + 2 < recursionLimit) (m0 : (snd, instObj 666 sd) ∈ news) (m1 : (sd, dictOf [⟨PyData.keyHash w.params (Str.ofString "iss"), .str (Str.ofString "iss") k1, .int ii ti⟩, ⟨PyData.keyHash w.params (Str.ofString "ring"), .str (Str.ofString "ring") k2, .int 256 tr⟩, ⟨PyData.keyHash w.params (Str.ofString "mss"), .str (Str.ofString "mss") k3, .int 4 tm⟩, ⟨PyData.keyHash w.params (Str.ofString "una"), .str (Str.ofString "una") k4, .int ui tu⟩, ⟨PyData.keyHash w.params (Str.ofString "next"), .str (Str.ofString "next") k5, .int nx tn⟩, ⟨PyData.keyHash w.params (Str.ofString "greatest"), .str (Str.ofString "greatest") k6, .int gr tg⟩, ⟨PyData.keyHash w.params (Str.ofString "peer"), .str (Str.ofString "peer") k7, .ref pe⟩, ⟨PyData.keyHash w.params (Str.ofString "queue"), .str (Str.ofString "queue") k8, .ref qu⟩, ⟨PyData.keyHash w.params (Str.ofString "syn_pending"), .str (Str.ofString "syn_pending") k9, .bool syn⟩, ⟨PyData.keyHash w.params (Str.ofString "fin_asked"), .str (Str.ofString "fin_asked") k10, .bool fin⟩, ⟨PyData.keyHash w.params (Str.ofString "fin_sent"), .str (Str.ofString "fin_sent") k11, .bool false⟩] 11) ∈ news) 
    (hret : ∀ t h' tk', Fr h₀ L h' m → News h₀ L h' news → Q (.int ((nx - ui).fmod 256) t) { s with heap := h', toks := tk' }) :
    wpAny (model Challenge.rw_xw0347_01.row.prog w) (ktrTop dp un gd cn cs L a ccd cl outer) (call (.ref 529) [.ref snd]) Q E s := by
  revert X; k_fill; intro X
  refine wpAny_call ?_
  k_dflt ktr_enter
  k_steps
  exact hret _ _ _ (by k_asm) (by k_asm)
set_option maxRecDepth 100000 in
set_option maxHeartbeats 8000000 in
theorem flight_zero {w : World} {mean : ExcName → Option Value} {mg mb : Str → Option Value} (dp un : Nat) (gd : Option (List Code)) (cn : Str) (cs : Scope) (a : Addr) (ccd : Value) (cl : List (Str × Addr)) (outer : List Env) (A₀ : Around) (base h₀ : Heap) (L : Addr) (m : Str → Option Value) (s : Shared) (Q E : Value → Shared → Prop)
    (snd sd pe qu : Addr) (k1 k2 k3 k4 k5 k6 k7 k8 k9 k10 k11 ti tr tm tu tn tg : Tok) (ii ui nx gr : Int) (fin : Bool) (syn : Bool) (news : List (Addr × Obj))
    (B : Below A₀ base outer h₀) (F : Fr h₀ L s.heap m) (X : (Tr.pre.heap_1_39 w.params).In h₀) (N : News h₀ L s.heap news)
    (T : Top Tr.pre.view_1_40 (looseW Tr.pre.view_1_40 [Str.ofString "Sender", Str.ofString "Tcb"]) mean mg mb h₀) (hk : cs.kind = .function)
    (hdp : dp + 2 < recursionLimit) (m0 : (snd, instObj 666 sd) ∈ news) (m1 : (sd, dictOf [⟨PyData.keyHash w.params (Str.ofString "iss"), .str (Str.ofString "iss") k1, .int ii ti⟩, ⟨PyData.keyHash w.params (Str.ofString "ring"), .str (Str.ofString "ring") k2, .int 256 tr⟩, ⟨PyData.keyHash w.params (Str.ofString "mss"), .str (Str.ofString "mss") k3, .int 4 tm⟩, ⟨PyData.keyHash w.params (Str.ofString "una"), .str (Str.ofString "una") k4, .int ui tu⟩, ⟨PyData.keyHash w.params (Str.ofString "next"), .str (Str.ofString "next") k5, .int nx tn⟩, ⟨PyData.keyHash w.params (Str.ofString "greatest"), .str (Str.ofString "greatest") k6, .int gr tg⟩, ⟨PyData.keyHash w.params (Str.ofString "peer"), .str (Str.ofString "peer") k7, .ref pe⟩, ⟨PyData.keyHash w.params (Str.ofString "queue"), .str (Str.ofString "queue") k8, .ref qu⟩, ⟨PyData.keyHash w.params (Str.ofString "syn_pending"), .str (Str.ofString "syn_pending") k9, .bool syn⟩, ⟨PyData.keyHash w.params (Str.ofString "fin_asked"), .str (Str.ofString "fin_asked") k10, .bool fin⟩, ⟨PyData.keyHash w.params (Str.ofString "fin_sent"), .str (Str.ofString "fin_sent") k11, .bool false⟩] 11) ∈ news) (hfl : (nx - ui).fmod 256 = 0)
    (hret : ∀ t h' tk', Fr h₀ L h' m → News h₀ L h' news → Q (.int 0 t) { s with heap := h', toks := tk' }) :
    wpAny (model Challenge.rw_xw0347_01.row.prog w) (ktrTop dp un gd cn cs L a ccd cl outer) (call (.ref 529) [.ref snd]) Q E s := by
  revert X; k_fill; intro X
  refine wpAny_call ?_
  k_dflt ktr_enter
  k_steps
  rw [hfl]
  exact hret _ _ _ (by k_asm) (by k_asm)
theorem rowsT3x2 : True := by
  k_with "call ref" => (k_here; (with_reducible show wpAny _ _ (call (Value.ref 529) _) _ _ _); k_dflt (refine' flight_zero _ _ _ _ _ _ _ _ _ _ _ _ _ _ _ _ _ _ _ _ _ _ _ _ _ _ _ _ _ _ _ _ _ _ _ _ _ _ _ _ _ _ _ _ _ (by k_asm) (by k_asm) (by k_asm) (by k_asm) (by k_asm) (by first | exact rfl | assumption) (by ktr_room) (by first | with_reducible assumption | k_mem) (by first | with_reducible assumption | k_mem) (by assumption) ?_; (intro t9 h9 tk9 F9 N9); (try k_sweep); (try dsimp only); (try k_fold)))
  exact True.intro
set_option maxRecDepth 100000 in
set_option maxHeartbeats 8000000 in
theorem unsent_idle {w : World} {mean : ExcName → Option Value} {mg mb : Str → Option Value} (dp un : Nat) (gd : Option (List Code)) (cn : Str) (cs : Scope) (a : Addr) (ccd : Value) (cl : List (Str × Addr)) (outer : List Env) (A₀ : Around) (base h₀ : Heap) (L : Addr) (m : Str → Option Value) (s : Shared) (Q E : Value → Shared → Prop)
    (snd sd pe qu : Addr) (k1 k2 k3 k4 k5 k6 k7 k8 k9 k10 k11 ti tr tm tu tn tg : Tok) (ii ui nx gr : Int) (fin : Bool)(qd : Addr) (q1 q2 qr tb : Tok) (bs : Array UInt8) (news : List (Addr × Obj))
    (B : Below A₀ base outer h₀) (F : Fr h₀ L s.heap m) (X : (Tr.pre.heap_1_39 w.params).In h₀) (N : News h₀ L s.heap news)
    (T : Top Tr.pre.view_1_40 (looseW Tr.pre.view_1_40 [Str.ofString "Sender", Str.ofString "Tcb"]) mean mg mb h₀) (hk : cs.kind = .function)
    (hdp : dp + 4 < recursionLimit) (m0 : (snd, instObj 666 sd) ∈ news) (m1 : (sd, dictOf [⟨PyData.keyHash w.params (Str.ofString "iss"), .str (Str.ofString "iss") k1, .int ii ti⟩, ⟨PyData.keyHash w.params (Str.ofString "ring"), .str (Str.ofString "ring") k2, .int 256 tr⟩, ⟨PyData.keyHash w.params (Str.ofString "mss"), .str (Str.ofString "mss") k3, .int 4 tm⟩, ⟨PyData.keyHash w.params (Str.ofString "una"), .str (Str.ofString "una") k4, .int ui tu⟩, ⟨PyData.keyHash w.params (Str.ofString "next"), .str (Str.ofString "next") k5, .int nx tn⟩, ⟨PyData.keyHash w.params (Str.ofString "greatest"), .str (Str.ofString "greatest") k6, .int gr tg⟩, ⟨PyData.keyHash w.params (Str.ofString "peer"), .str (Str.ofString "peer") k7, .ref pe⟩, ⟨PyData.keyHash w.params (Str.ofString "queue"), .str (Str.ofString "queue") k8, .ref qu⟩, ⟨PyData.keyHash w.params (Str.ofString "syn_pending"), .str (Str.ofString "syn_pending") k9, .bool false⟩, ⟨PyData.keyHash w.params (Str.ofString "fin_asked"), .str (Str.ofString "fin_asked") k10, .bool fin⟩, ⟨PyData.keyHash w.params (Str.ofString "fin_sent"), .str (Str.ofString "fin_sent") k11, .bool false⟩] 11) ∈ news) (m2 : (qu, instObj 433 qd) ∈ news) (m3 : (qd, dictOf [⟨PyData.keyHash w.params (Str.ofString "room"), .str (Str.ofString "room") q1, .int 40 qr⟩, ⟨PyData.keyHash w.params (Str.ofString "held"), .str (Str.ofString "held") q2, .bytes bs tb⟩] 2) ∈ news) (hfl : (nx - ui).fmod 256 = 0) (hs : bs.size ≤ 40)
    (hret : ∀ t h' tk', Fr h₀ L h' m → News h₀ L h' news → Q (.int bs.size t) { s with heap := h', toks := tk' }) :
    wpAny (model Challenge.rw_xw0347_01.row.prog w) (ktrTop dp un gd cn cs L a ccd cl outer) (call (.ref 550) [.ref snd]) Q E s := by
  revert X; k_fill; intro X
  refine wpAny_call ?_
  k_dflt ktr_enter
  k_steps
  all_goals (refine' cb_retI (x := (bs.size : Int)) (fun t h' tk' => hret t h' tk') ?e ?F ?N; (case F => k_asm); (case N => k_asm); (case e => omega))
theorem rowsT3x3 : True := by
  k_with "call ref" => (k_here; (with_reducible show wpAny _ _ (call (Value.ref 550) _) _ _ _); k_dflt (refine' unsent_idle _ _ _ _ _ _ _ _ _ _ _ _ _ _ _ _ _ _ _ _ _ _ _ _ _ _ _ _ _ _ _ _ _ _ _ _ _ _ _ _ _ _ _ _ _ _ _ _ _ _ (by k_asm) (by k_asm) (by k_asm) (by k_asm) (by k_asm) (by first | exact rfl | assumption) (by ktr_room) (by first | with_reducible assumption | k_mem) (by first | with_reducible assumption | k_mem) (by first | with_reducible assumption | k_mem) (by first | with_reducible assumption | k_mem) (by assumption) (by assumption) ?_; (intro t9 h9 tk9 F9 N9); (try k_sweep); (try dsimp only); (try k_fold)))
  exact True.intro
end
-- T3b
section
theorem rowsT3bx1 : True := by
  k_with_none
  k_with "data" => (repeat ((fail_if_success (refine Classical.byContradiction ?_)); rotate_left))
  k_with "callWith ref" => (k_here; k_dflt (refine' callWith_K (by with_reducible assumption) (by k_is) ?_; k_whole))
  k_with "callWith ref" => (k_here; (with_reducible show wpAny _ _ (callWith _ _ _ (backTo _ (starEach [] _)) []) _ _ _); (with_reducible rename Fr _ _ _ _ => kF); k_dflt (refine' callWith_K0 (Frag.In.keeps (by with_reducible assumption) (Fr.keep kF)) (by k_is) ?_; k_whole))
  k_with "call builtin:min" => (k_here; (with_reducible show wpAny _ _ (call (Value.builtin _) [Value.int _ _, Value.int _ _]) _ _ _); (with_unfolding_all refine' min2_K (by with_unfolding_all rfl) (by k_asm) (by k_asm) ?_; k_whole); (intro h' tk' r9 tr9 hr1 hr2 hr3 F' N'); (try k_sweep))
  k_with "call builtin:max" => (k_here; (with_reducible show wpAny _ _ (call (Value.builtin _) [Value.int _ _, Value.int _ _]) _ _ _); (with_unfolding_all refine' max2_K (by with_unfolding_all rfl) (by k_asm) (by k_asm) ?_; k_whole); (intro h' tk' r9 tr9 hr1 hr2 hr3 F' N'); (try k_sweep))
  k_with "call builtin:min" => (k_here; (with_reducible show wpAny _ _ (call (Value.builtin _) [Value.int _ _, Value.int _ _, Value.int _ _]) _ _ _); (with_unfolding_all refine' min3_K (by with_unfolding_all rfl) (by k_asm) (by k_asm) ?_; k_whole); (intro h' tk' r9 tr9 hr1 hr2 hr3 hr4 F' N'); (try k_sweep))
  k_with "call ref" => (k_here; (with_reducible show wpAny _ _ (call (Value.ref 529) _) _ _ _); k_dflt (refine' flight_zero _ _ _ _ _ _ _ _ _ _ _ _ _ _ _ _ _ _ _ _ _ _ _ _ _ _ _ _ _ _ _ _ _ _ _ _ _ _ _ _ _ _ _ _ _ (by k_asm) (by k_asm) (by k_asm) (by k_asm) (by k_asm) (by first | exact rfl | assumption) (by ktr_room) (by first | with_reducible assumption | k_mem) (by first | with_reducible assumption | k_mem) (by assumption) ?_; (intro t9 h9 tk9 F9 N9); (try k_sweep); (try dsimp only); (try k_fold)))
  k_with "call ref" => (k_here; (with_reducible show wpAny _ _ (call (Value.ref 550) _) _ _ _); k_dflt (refine' unsent_idle _ _ _ _ _ _ _ _ _ _ _ _ _ _ _ _ _ _ _ _ _ _ _ _ _ _ _ _ _ _ _ _ _ _ _ _ _ _ _ _ _ _ _ _ _ _ _ _ _ _ (by k_asm) (by k_asm) (by k_asm) (by k_asm) (by k_asm) (by first | exact rfl | assumption) (by ktr_room) (by first | with_reducible assumption | k_mem) (by first | with_reducible assumption | k_mem) (by first | with_reducible assumption | k_mem) (by first | with_reducible assumption | k_mem) (by assumption) (by assumption) ?_; (intro t9 h9 tk9 F9 N9); (try k_sweep); (try dsimp only); (try k_fold)))
  exact True.intro
set_option maxRecDepth 100000 in
set_option maxHeartbeats 8000000 in
theorem idle_more_idle {w : World} {mean : ExcName → Option Value} {mg mb : Str → Option Value} (dp un : Nat) (gd : Option (List Code)) (cn : Str) (cs : Scope) (a : Addr) (ccd : Value) (cl : List (Str × Addr)) (outer : List Env) (A₀ : Around) (base h₀ : Heap) (L : Addr) (m : Str → Option Value) (s : Shared) (Q E : Value → Shared → Prop)
    (snd sd pe qu : Addr) (k1 k2 k3 k4 k5 k6 k7 k8 k9 k10 k11 ti tr tm tu tn tg : Tok) (ii ui nx gr : Int) (fin : Bool)(qd : Addr) (q1 q2 qr tb : Tok) (bs : Array UInt8) (news : List (Addr × Obj))
    (B : Below A₀ base outer h₀) (F : Fr h₀ L s.heap m) (X : (Tr.pre.heap_1_39 w.params).In h₀) (N : News h₀ L s.heap news)
    (T : Top Tr.pre.view_1_40 (looseW Tr.pre.view_1_40 [Str.ofString "Sender", Str.ofString "Tcb"]) mean mg mb h₀) (hk : cs.kind = .function)
    (hdp : dp + 6 < recursionLimit) (m0 : (snd, instObj 666 sd) ∈ news) (m1 : (sd, dictOf [⟨PyData.keyHash w.params (Str.ofString "iss"), .str (Str.ofString "iss") k1, .int ii ti⟩, ⟨PyData.keyHash w.params (Str.ofString "ring"), .str (Str.ofString "ring") k2, .int 256 tr⟩, ⟨PyData.keyHash w.params (Str.ofString "mss"), .str (Str.ofString "mss") k3, .int 4 tm⟩, ⟨PyData.keyHash w.params (Str.ofString "una"), .str (Str.ofString "una") k4, .int ui tu⟩, ⟨PyData.keyHash w.params (Str.ofString "next"), .str (Str.ofString "next") k5, .int nx tn⟩, ⟨PyData.keyHash w.params (Str.ofString "greatest"), .str (Str.ofString "greatest") k6, .int gr tg⟩, ⟨PyData.keyHash w.params (Str.ofString "peer"), .str (Str.ofString "peer") k7, .ref pe⟩, ⟨PyData.keyHash w.params (Str.ofString "queue"), .str (Str.ofString "queue") k8, .ref qu⟩, ⟨PyData.keyHash w.params (Str.ofString "syn_pending"), .str (Str.ofString "syn_pending") k9, .bool false⟩, ⟨PyData.keyHash w.params (Str.ofString "fin_asked"), .str (Str.ofString "fin_asked") k10, .bool fin⟩, ⟨PyData.keyHash w.params (Str.ofString "fin_sent"), .str (Str.ofString "fin_sent") k11, .bool false⟩] 11) ∈ news) (m2 : (qu, instObj 433 qd) ∈ news) (m3 : (qd, dictOf [⟨PyData.keyHash w.params (Str.ofString "room"), .str (Str.ofString "room") q1, .int 40 qr⟩, ⟨PyData.keyHash w.params (Str.ofString "held"), .str (Str.ofString "held") q2, .bytes bs tb⟩] 2) ∈ news) (hfl : (nx - ui).fmod 256 = 0) (hs : bs.size ≤ 40)
    (hret : ∀  h' tk', Fr h₀ L h' m → News h₀ L h' news → Q (.bool (decide (0 < (bs.size : Int)) || fin)) { s with heap := h', toks := tk' }) :
    wpAny (model Challenge.rw_xw0347_01.row.prog w) (ktrTop dp un gd cn cs L a ccd cl outer) (call (.ref 642) [.ref snd]) Q E s := by
  revert X; k_fill; intro X
  refine wpAny_call ?_
  k_dflt ktr_enter
  k_steps
  all_goals (refine' cb_retB (x := (decide (0 < (bs.size : Int)) || fin)) (fun _ h' tk' => hret h' tk') ?e ?F ?N; (case F => k_asm); (case N => k_asm); (case e => (clear hret; first | (rw [Bool.eq_iff_iff]; simp_all <;> omega) | (simp_all; done))))
theorem rowsT3bx2 : True := by
  k_with "call ref" => (k_here; (with_reducible show wpAny _ _ (call (Value.ref 642) _) _ _ _); k_dflt (refine' idle_more_idle _ _ _ _ _ _ _ _ _ _ _ _ _ _ _ _ _ _ _ _ _ _ _ _ _ _ _ _ _ _ _ _ _ _ _ _ _ _ _ _ _ _ _ _ _ _ _ _ _ _ (by k_asm) (by k_asm) (by k_asm) (by k_asm) (by k_asm) (by first | exact rfl | assumption) (by ktr_room) (by first | with_reducible assumption | k_mem) (by first | with_reducible assumption | k_mem) (by first | with_reducible assumption | k_mem) (by first | with_reducible assumption | k_mem) (by assumption) (by assumption) ?_; (intro  h9 tk9 F9 N9); (try k_sweep); (try dsimp only); (try k_fold)))
  exact True.intro
set_option maxRecDepth 100000 in
set_option maxHeartbeats 8000000 in
theorem may_go_idle {w : World} {mean : ExcName → Option Value} {mg mb : Str → Option Value} (dp un : Nat) (gd : Option (List Code)) (cn : Str) (cs : Scope) (a : Addr) (ccd : Value) (cl : List (Str × Addr)) (outer : List Env) (A₀ : Around) (base h₀ : Heap) (L : Addr) (m : Str → Option Value) (s : Shared) (Q E : Value → Shared → Prop)
    (snd sd pe qu : Addr) (k1 k2 k3 k4 k5 k6 k7 k8 k9 k10 k11 ti tr tm tu tn tg : Tok) (ii ui nx gr : Int) (fin : Bool)(pd : Addr) (p1 p2 p3 p4 p5 pr tw tmo tts tta : Tok) (win mo ts ta : Int)(qd : Addr) (q1 q2 qr tb : Tok) (bs : Array UInt8) (mm : Int) (tmm : Tok) (news : List (Addr × Obj))
    (B : Below A₀ base outer h₀) (F : Fr h₀ L s.heap m) (X : (Tr.pre.heap_1_39 w.params).In h₀) (N : News h₀ L s.heap news)
    (T : Top Tr.pre.view_1_40 (looseW Tr.pre.view_1_40 [Str.ofString "Sender", Str.ofString "Tcb"]) mean mg mb h₀) (hk : cs.kind = .function)
    (hdp : dp + 6 < recursionLimit) (m0 : (snd, instObj 666 sd) ∈ news) (m1 : (sd, dictOf [⟨PyData.keyHash w.params (Str.ofString "iss"), .str (Str.ofString "iss") k1, .int ii ti⟩, ⟨PyData.keyHash w.params (Str.ofString "ring"), .str (Str.ofString "ring") k2, .int 256 tr⟩, ⟨PyData.keyHash w.params (Str.ofString "mss"), .str (Str.ofString "mss") k3, .int 4 tm⟩, ⟨PyData.keyHash w.params (Str.ofString "una"), .str (Str.ofString "una") k4, .int ui tu⟩, ⟨PyData.keyHash w.params (Str.ofString "next"), .str (Str.ofString "next") k5, .int nx tn⟩, ⟨PyData.keyHash w.params (Str.ofString "greatest"), .str (Str.ofString "greatest") k6, .int gr tg⟩, ⟨PyData.keyHash w.params (Str.ofString "peer"), .str (Str.ofString "peer") k7, .ref pe⟩, ⟨PyData.keyHash w.params (Str.ofString "queue"), .str (Str.ofString "queue") k8, .ref qu⟩, ⟨PyData.keyHash w.params (Str.ofString "syn_pending"), .str (Str.ofString "syn_pending") k9, .bool false⟩, ⟨PyData.keyHash w.params (Str.ofString "fin_asked"), .str (Str.ofString "fin_asked") k10, .bool fin⟩, ⟨PyData.keyHash w.params (Str.ofString "fin_sent"), .str (Str.ofString "fin_sent") k11, .bool false⟩] 11) ∈ news) (m2 : (pe, instObj 475 pd) ∈ news) (m3 : (pd, dictOf [⟨PyData.keyHash w.params (Str.ofString "ring"), .str (Str.ofString "ring") p1, .int 256 pr⟩, ⟨PyData.keyHash w.params (Str.ofString "size"), .str (Str.ofString "size") p2, .int win tw⟩, ⟨PyData.keyHash w.params (Str.ofString "most"), .str (Str.ofString "most") p3, .int mo tmo⟩, ⟨PyData.keyHash w.params (Str.ofString "told_seq"), .str (Str.ofString "told_seq") p4, .int ts tts⟩, ⟨PyData.keyHash w.params (Str.ofString "told_ack"), .str (Str.ofString "told_ack") p5, .int ta tta⟩] 5) ∈ news) (m4 : (qu, instObj 433 qd) ∈ news) (m5 : (qd, dictOf [⟨PyData.keyHash w.params (Str.ofString "room"), .str (Str.ofString "room") q1, .int 40 qr⟩, ⟨PyData.keyHash w.params (Str.ofString "held"), .str (Str.ofString "held") q2, .bytes bs tb⟩] 2) ∈ news) (hfl : (nx - ui).fmod 256 = 0) (hs : bs.size ≤ 40)
    (hret : ∀  h' tk', Fr h₀ L h' m → News h₀ L h' news → Q (.bool (decide (4 ≤ mm ∨ mm = bs.size ∨ mo ≤ 2 * mm))) { s with heap := h', toks := tk' }) :
    wpAny (model Challenge.rw_xw0347_01.row.prog w) (ktrTop dp un gd cn cs L a ccd cl outer) (call (.ref 592) [.ref snd, .int mm tmm, .bool true]) Q E s := by
  revert X; k_fill; intro X
  refine wpAny_call ?_
  k_dflt ktr_enter
  k_steps
  all_goals (refine' cb_retB (x := (decide (4 ≤ mm ∨ mm = bs.size ∨ mo ≤ 2 * mm))) (fun _ h' tk' => hret h' tk') ?e ?F ?N; (case F => k_asm); (case N => k_asm); (case e => (clear hret; first | (rw [Bool.eq_iff_iff]; simp_all <;> omega) | (simp_all; done))))
theorem rowsT3bx3 : True := by
  k_with "call ref" => (k_here; (with_reducible show wpAny _ _ (call (Value.ref 592) _) _ _ _); k_dflt (refine' may_go_idle _ _ _ _ _ _ _ _ _ _ _ _ _ _ _ _ _ _ _ _ _ _ _ _ _ _ _ _ _ _ _ _ _ _ _ _ _ _ _ _ _ _ _ _ _ _ _ _ _ _ _ _ _ _ _ _ _ _ _ _ _ _ _ _ _ _ _ (by k_asm) (by k_asm) (by k_asm) (by k_asm) (by k_asm) (by first | exact rfl | assumption) (by ktr_room) (by first | with_reducible assumption | k_mem) (by first | with_reducible assumption | k_mem) (by first | with_reducible assumption | k_mem) (by first | with_reducible assumption | k_mem) (by first | with_reducible assumption | k_mem) (by first | with_reducible assumption | k_mem) (by assumption) (by assumption) ?_; (intro  h9 tk9 F9 N9); (try k_sweep); (try dsimp only); (try k_fold)))
  exact True.intro
set_option maxRecDepth 100000 in
set_option maxHeartbeats 8000000 in
theorem needs_probe_idle {w : World} {mean : ExcName → Option Value} {mg mb : Str → Option Value} (dp un : Nat) (gd : Option (List Code)) (cn : Str) (cs : Scope) (a : Addr) (ccd : Value) (cl : List (Str × Addr)) (outer : List Env) (A₀ : Around) (base h₀ : Heap) (L : Addr) (m : Str → Option Value) (s : Shared) (Q E : Value → Shared → Prop)
    (snd sd pe qu : Addr) (k1 k2 k3 k4 k5 k6 k7 k8 k9 k10 k11 ti tr tm tu tn tg : Tok) (ii ui nx gr : Int) (fin : Bool)(pd : Addr) (p1 p2 p3 p4 p5 pr tw tmo tts tta : Tok) (win mo ts ta : Int)(qd : Addr) (q1 q2 qr tb : Tok) (bs : Array UInt8) (news : List (Addr × Obj))
    (B : Below A₀ base outer h₀) (F : Fr h₀ L s.heap m) (X : (Tr.pre.heap_1_39 w.params).In h₀) (N : News h₀ L s.heap news)
    (T : Top Tr.pre.view_1_40 (looseW Tr.pre.view_1_40 [Str.ofString "Sender", Str.ofString "Tcb"]) mean mg mb h₀) (hk : cs.kind = .function)
    (hdp : dp + 8 < recursionLimit) (m0 : (snd, instObj 666 sd) ∈ news) (m1 : (sd, dictOf [⟨PyData.keyHash w.params (Str.ofString "iss"), .str (Str.ofString "iss") k1, .int ii ti⟩, ⟨PyData.keyHash w.params (Str.ofString "ring"), .str (Str.ofString "ring") k2, .int 256 tr⟩, ⟨PyData.keyHash w.params (Str.ofString "mss"), .str (Str.ofString "mss") k3, .int 4 tm⟩, ⟨PyData.keyHash w.params (Str.ofString "una"), .str (Str.ofString "una") k4, .int ui tu⟩, ⟨PyData.keyHash w.params (Str.ofString "next"), .str (Str.ofString "next") k5, .int nx tn⟩, ⟨PyData.keyHash w.params (Str.ofString "greatest"), .str (Str.ofString "greatest") k6, .int gr tg⟩, ⟨PyData.keyHash w.params (Str.ofString "peer"), .str (Str.ofString "peer") k7, .ref pe⟩, ⟨PyData.keyHash w.params (Str.ofString "queue"), .str (Str.ofString "queue") k8, .ref qu⟩, ⟨PyData.keyHash w.params (Str.ofString "syn_pending"), .str (Str.ofString "syn_pending") k9, .bool false⟩, ⟨PyData.keyHash w.params (Str.ofString "fin_asked"), .str (Str.ofString "fin_asked") k10, .bool fin⟩, ⟨PyData.keyHash w.params (Str.ofString "fin_sent"), .str (Str.ofString "fin_sent") k11, .bool false⟩] 11) ∈ news) (m2 : (pe, instObj 475 pd) ∈ news) (m3 : (pd, dictOf [⟨PyData.keyHash w.params (Str.ofString "ring"), .str (Str.ofString "ring") p1, .int 256 pr⟩, ⟨PyData.keyHash w.params (Str.ofString "size"), .str (Str.ofString "size") p2, .int win tw⟩, ⟨PyData.keyHash w.params (Str.ofString "most"), .str (Str.ofString "most") p3, .int mo tmo⟩, ⟨PyData.keyHash w.params (Str.ofString "told_seq"), .str (Str.ofString "told_seq") p4, .int ts tts⟩, ⟨PyData.keyHash w.params (Str.ofString "told_ack"), .str (Str.ofString "told_ack") p5, .int ta tta⟩] 5) ∈ news) (m4 : (qu, instObj 433 qd) ∈ news) (m5 : (qd, dictOf [⟨PyData.keyHash w.params (Str.ofString "room"), .str (Str.ofString "room") q1, .int 40 qr⟩, ⟨PyData.keyHash w.params (Str.ofString "held"), .str (Str.ofString "held") q2, .bytes bs tb⟩] 2) ∈ news) (hfl : (nx - ui).fmod 256 = 0) (hs : bs.size ≤ 40) (hw : 0 ≤ win)
    (hret : ∀  h' tk', Fr h₀ L h' m → News h₀ L h' news → Q (.bool (prb fin bs.size win mo)) { s with heap := h', toks := tk' }) :
    wpAny (model Challenge.rw_xw0347_01.row.prog w) (ktrTop dp un gd cn cs L a ccd cl outer) (call (.ref 649) [.ref snd]) Q E s := by
  revert X; k_fill; intro X
  refine wpAny_call ?_
  k_dflt ktr_enter
  k_steps
  all_goals (refine' cb_retB (x := prb fin bs.size win mo) (fun _ h' tk' => hret h' tk') ?e ?F ?N; (case F => k_asm); (case N => k_asm); (case e => (clear hret; unfold prb; split <;> first | (exfalso; omega) | (rw [Bool.eq_iff_iff]; simp_all <;> omega) | (simp_all; done))))
set_option maxRecDepth 100000 in
set_option maxHeartbeats 8000000 in
theorem needs_probe_busy {w : World} {mean : ExcName → Option Value} {mg mb : Str → Option Value} (dp un : Nat) (gd : Option (List Code)) (cn : Str) (cs : Scope) (a : Addr) (ccd : Value) (cl : List (Str × Addr)) (outer : List Env) (A₀ : Around) (base h₀ : Heap) (L : Addr) (m : Str → Option Value) (s : Shared) (Q E : Value → Shared → Prop)
    (snd sd pe qu : Addr) (k1 k2 k3 k4 k5 k6 k7 k8 k9 k10 k11 ti tr tm tu tn tg : Tok) (ii ui nx gr : Int) (fin : Bool)(pd : Addr) (p1 p2 p3 p4 p5 pr tw tmo tts tta : Tok) (win mo ts ta : Int)(qd : Addr) (q1 q2 qr tb : Tok) (bs : Array UInt8) (syn : Bool) (news : List (Addr × Obj))
    (B : Below A₀ base outer h₀) (F : Fr h₀ L s.heap m) (X : (Tr.pre.heap_1_39 w.params).In h₀) (N : News h₀ L s.heap news)
    (T : Top Tr.pre.view_1_40 (looseW Tr.pre.view_1_40 [Str.ofString "Sender", Str.ofString "Tcb"]) mean mg mb h₀) (hk : cs.kind = .function)
    (hdp : dp + 8 < recursionLimit) (m0 : (snd, instObj 666 sd) ∈ news) (m1 : (sd, dictOf [⟨PyData.keyHash w.params (Str.ofString "iss"), .str (Str.ofString "iss") k1, .int ii ti⟩, ⟨PyData.keyHash w.params (Str.ofString "ring"), .str (Str.ofString "ring") k2, .int 256 tr⟩, ⟨PyData.keyHash w.params (Str.ofString "mss"), .str (Str.ofString "mss") k3, .int 4 tm⟩, ⟨PyData.keyHash w.params (Str.ofString "una"), .str (Str.ofString "una") k4, .int ui tu⟩, ⟨PyData.keyHash w.params (Str.ofString "next"), .str (Str.ofString "next") k5, .int nx tn⟩, ⟨PyData.keyHash w.params (Str.ofString "greatest"), .str (Str.ofString "greatest") k6, .int gr tg⟩, ⟨PyData.keyHash w.params (Str.ofString "peer"), .str (Str.ofString "peer") k7, .ref pe⟩, ⟨PyData.keyHash w.params (Str.ofString "queue"), .str (Str.ofString "queue") k8, .ref qu⟩, ⟨PyData.keyHash w.params (Str.ofString "syn_pending"), .str (Str.ofString "syn_pending") k9, .bool syn⟩, ⟨PyData.keyHash w.params (Str.ofString "fin_asked"), .str (Str.ofString "fin_asked") k10, .bool fin⟩, ⟨PyData.keyHash w.params (Str.ofString "fin_sent"), .str (Str.ofString "fin_sent") k11, .bool false⟩] 11) ∈ news) (m2 : (pe, instObj 475 pd) ∈ news) (m3 : (pd, dictOf [⟨PyData.keyHash w.params (Str.ofString "ring"), .str (Str.ofString "ring") p1, .int 256 pr⟩, ⟨PyData.keyHash w.params (Str.ofString "size"), .str (Str.ofString "size") p2, .int win tw⟩, ⟨PyData.keyHash w.params (Str.ofString "most"), .str (Str.ofString "most") p3, .int mo tmo⟩, ⟨PyData.keyHash w.params (Str.ofString "told_seq"), .str (Str.ofString "told_seq") p4, .int ts tts⟩, ⟨PyData.keyHash w.params (Str.ofString "told_ack"), .str (Str.ofString "told_ack") p5, .int ta tta⟩] 5) ∈ news) (m4 : (qu, instObj 433 qd) ∈ news) (m5 : (qd, dictOf [⟨PyData.keyHash w.params (Str.ofString "room"), .str (Str.ofString "room") q1, .int 40 qr⟩, ⟨PyData.keyHash w.params (Str.ofString "held"), .str (Str.ofString "held") q2, .bytes bs tb⟩] 2) ∈ news) (hfl : syn = true ∨ 0 < (nx - ui).fmod 256)
    (hret : ∀  h' tk', Fr h₀ L h' m → News h₀ L h' news → Q (.bool false) { s with heap := h', toks := tk' }) :
    wpAny (model Challenge.rw_xw0347_01.row.prog w) (ktrTop dp un gd cn cs L a ccd cl outer) (call (.ref 649) [.ref snd]) Q E s := by
  revert X; k_fill; intro X
  refine wpAny_call ?_
  k_dflt ktr_enter
  rcases hfl with hfl | hfl
  · subst hfl
    k_steps
    exact hret _ _ (by k_asm) (by k_asm)
  · k_steps
    all_goals exact hret _ _ (by k_asm) (by k_asm)
noncomputable def np (syn fin : Bool) (fl rest win mo : Int) : Bool := if syn = true ∨ 0 < fl then false else prb fin rest win mo
set_option maxRecDepth 100000 in
set_option maxHeartbeats 8000000 in
theorem needs_probe_any {w : World} {mean : ExcName → Option Value} {mg mb : Str → Option Value} (dp un : Nat) (gd : Option (List Code)) (cn : Str) (cs : Scope) (a : Addr) (ccd : Value) (cl : List (Str × Addr)) (outer : List Env) (A₀ : Around) (base h₀ : Heap) (L : Addr) (m : Str → Option Value) (s : Shared) (Q E : Value → Shared → Prop)
    (snd sd pe qu : Addr) (k1 k2 k3 k4 k5 k6 k7 k8 k9 k10 k11 ti tr tm tu tn tg : Tok) (ii ui nx gr : Int) (fin : Bool)(pd : Addr) (p1 p2 p3 p4 p5 pr tw tmo tts tta : Tok) (win mo ts ta : Int)(qd : Addr) (q1 q2 qr tb : Tok) (bs : Array UInt8) (syn : Bool) (news : List (Addr × Obj))
    (B : Below A₀ base outer h₀) (F : Fr h₀ L s.heap m) (X : (Tr.pre.heap_1_39 w.params).In h₀) (N : News h₀ L s.heap news)
    (T : Top Tr.pre.view_1_40 (looseW Tr.pre.view_1_40 [Str.ofString "Sender", Str.ofString "Tcb"]) mean mg mb h₀) (hk : cs.kind = .function)
    (hdp : dp + 8 < recursionLimit) (m0 : (snd, instObj 666 sd) ∈ news) (m1 : (sd, dictOf [⟨PyData.keyHash w.params (Str.ofString "iss"), .str (Str.ofString "iss") k1, .int ii ti⟩, ⟨PyData.keyHash w.params (Str.ofString "ring"), .str (Str.ofString "ring") k2, .int 256 tr⟩, ⟨PyData.keyHash w.params (Str.ofString "mss"), .str (Str.ofString "mss") k3, .int 4 tm⟩, ⟨PyData.keyHash w.params (Str.ofString "una"), .str (Str.ofString "una") k4, .int ui tu⟩, ⟨PyData.keyHash w.params (Str.ofString "next"), .str (Str.ofString "next") k5, .int nx tn⟩, ⟨PyData.keyHash w.params (Str.ofString "greatest"), .str (Str.ofString "greatest") k6, .int gr tg⟩, ⟨PyData.keyHash w.params (Str.ofString "peer"), .str (Str.ofString "peer") k7, .ref pe⟩, ⟨PyData.keyHash w.params (Str.ofString "queue"), .str (Str.ofString "queue") k8, .ref qu⟩, ⟨PyData.keyHash w.params (Str.ofString "syn_pending"), .str (Str.ofString "syn_pending") k9, .bool syn⟩, ⟨PyData.keyHash w.params (Str.ofString "fin_asked"), .str (Str.ofString "fin_asked") k10, .bool fin⟩, ⟨PyData.keyHash w.params (Str.ofString "fin_sent"), .str (Str.ofString "fin_sent") k11, .bool false⟩] 11) ∈ news) (m2 : (pe, instObj 475 pd) ∈ news) (m3 : (pd, dictOf [⟨PyData.keyHash w.params (Str.ofString "ring"), .str (Str.ofString "ring") p1, .int 256 pr⟩, ⟨PyData.keyHash w.params (Str.ofString "size"), .str (Str.ofString "size") p2, .int win tw⟩, ⟨PyData.keyHash w.params (Str.ofString "most"), .str (Str.ofString "most") p3, .int mo tmo⟩, ⟨PyData.keyHash w.params (Str.ofString "told_seq"), .str (Str.ofString "told_seq") p4, .int ts tts⟩, ⟨PyData.keyHash w.params (Str.ofString "told_ack"), .str (Str.ofString "told_ack") p5, .int ta tta⟩] 5) ∈ news) (m4 : (qu, instObj 433 qd) ∈ news) (m5 : (qd, dictOf [⟨PyData.keyHash w.params (Str.ofString "room"), .str (Str.ofString "room") q1, .int 40 qr⟩, ⟨PyData.keyHash w.params (Str.ofString "held"), .str (Str.ofString "held") q2, .bytes bs tb⟩] 2) ∈ news) (hs : bs.size ≤ 40) (hw : 0 ≤ win)
    (hret : ∀  h' tk', Fr h₀ L h' m → News h₀ L h' news → Q (.bool (np syn fin ((nx - ui).fmod 256) bs.size win mo)) { s with heap := h', toks := tk' }) :
    wpAny (model Challenge.rw_xw0347_01.row.prog w) (ktrTop dp un gd cn cs L a ccd cl outer) (call (.ref 649) [.ref snd]) Q E s := by
  by_cases hc : syn = true ∨ 0 < (nx - ui).fmod 256
  · unfold np at hret
    rw [if_pos hc] at hret
    exact needs_probe_busy dp un gd cn cs a ccd cl outer A₀ base h₀ L m s Q E snd sd pe qu k1 k2 k3 k4 k5 k6 k7 k8 k9 k10 k11 ti tr tm tu tn tg ii ui nx gr fin pd p1 p2 p3 p4 p5 pr tw tmo tts tta win mo ts ta qd q1 q2 qr tb bs syn news B F X N T hk hdp m0 m1 m2 m3 m4 m5 hc hret
  · unfold np at hret
    rw [if_neg hc] at hret
    have h0 : (nx - ui).fmod 256 = 0 := by
      have := fmod_lo (nx - ui) (n := 256) (by decide)
      omega
    have hs' : syn = false := by
      cases hb : syn with
      | false => rfl
      | true => exact absurd (Or.inl hb) hc
    subst hs'
    exact needs_probe_idle dp un gd cn cs a ccd cl outer A₀ base h₀ L m s Q E snd sd pe qu k1 k2 k3 k4 k5 k6 k7 k8 k9 k10 k11 ti tr tm tu tn tg ii ui nx gr fin pd p1 p2 p3 p4 p5 pr tw tmo tts tta win mo ts ta qd q1 q2 qr tb bs news B F X N T hk hdp m0 m1 m2 m3 m4 m5 h0 hs hw hret
end
-- L2
section
theorem norowsL2 : True := by
  k_with_none
  exact True.intro
abbrev tupO (t : Int) (t1 : Tok) (g : Int) (t2 : Tok) (n : Nat) : Obj := ⟨.type "tuple", none, .seq [.int t t1, .int g t2].toArray n, #[]⟩
inductive Spl (prv : List (Addr × Obj)) : List (Addr × Obj) → List (Addr × Obj) → Prop
  | nil : Spl prv prv []
  | cons {e l pub} : Spl prv l pub → Spl prv (e :: l) (e :: pub)
theorem Spl.eq {prv news pub : List (Addr × Obj)} (h : Spl prv news pub) : news = pub ++ prv := by
  induction h with
  | nil => rfl
  | cons _ ih => rw [ih]; rfl
structure WSt (whl wd sl lt en : Addr) : Prop where
  lo : (en == sysModules) = false
  e1 : @Ne Nat en whl
  e2 : @Ne Nat en wd
  e3 : @Ne Nat en sl
  e4 : @Ne Nat en lt
  w1 : @Ne Nat wd whl
  w2 : @Ne Nat wd sl
  w3 : @Ne Nat wd lt
structure WI (w : World) (whl wd sl lt en : Addr) (tm : Int → Option Int) (bd : Nat) (kp prv : List (Addr × Obj)) : Prop where
  kps : ∀ p ∈ kp, p ∈ prv ∧ p.2.cls ≠ .type "list" ∧ @Ne Nat p.1 wd ∧ @Ne Nat p.1 en
  sls : ∃ (svs : List Value) (n : Nat), (sl, listOf svs.toArray n) ∈ prv ∧ ∀ j : Nat, j < 16 → ∃ (x : Addr) (vs : List Value) (ns : List Int) (n' : Nat), svs[j]? = some (.ref x) ∧ (x, listOf vs.toArray n') ∈ prv ∧ IntsAre vs ns ∧ vs.length ≤ bd ∧ @Ne Nat x whl ∧ @Ne Nat x wd ∧ @Ne Nat x sl ∧ @Ne Nat x lt ∧ @Ne Nat x en
  lat : ∃ n : Nat, (lt, listOf [].toArray n) ∈ prv
  ents : ∃ (oe : Obj) (kvs : List (Int × Value)), (en, oe) ∈ prv ∧ oe.IsDictOf (PySem.intKind Challenge.rw_xw0347_01.row.prog w) kvs ∧ kvs.length ≤ bd ∧ (∀ key, tm key = none → valueAt kvs key = none) ∧ ∀ key t, tm key = some t → ∃ (ta : Addr) (t1 : Tok) (g : Int) (t2 : Tok) (nt : Nat), valueAt kvs key = some (.ref ta) ∧ (ta, tupO t t1 g t2 nt) ∈ prv
noncomputable def repl (ch prv : List (Addr × Obj)) : List (Addr × Obj) := ch ++ prv.filter fun p => decide (p.1 ∉ ch.map (·.1))
theorem repl_new {ch prv : List (Addr × Obj)} {p : Addr × Obj} (h : p ∈ ch) : p ∈ repl ch prv := List.mem_append_left _ h
theorem repl_old {ch prv : List (Addr × Obj)} {p : Addr × Obj} (h : p ∈ prv) (hn : p.1 ∉ ch.map (·.1)) : p ∈ repl ch prv := List.mem_append_right _ (List.mem_filter.mpr ⟨h, decide_eq_true hn⟩)
theorem wheel_after {h₀ h h' : Heap} {L : Addr} {news pub prv ch : List (Addr × Obj)} (N : News h₀ L h news) (sp : Spl prv news pub) (off : OwnOff prv (pub.map (·.1)))
    (kb : KeepBut h h' (ch.map (·.1))) (nw : ∀ q ∈ ch, (∃ o, (q.1, o) ∈ prv) ∨ h.get? q.1 = none) (N' : News h₀ L h' ch) :
    News h₀ L h' (pub ++ repl ch prv) ∧ OwnOff (repl ch prv) (pub.map (·.1)) := by
  have e := sp.eq
  subst e
  have offP : ∀ p ∈ pub, ∀ q ∈ ch, p.1 ≠ q.1 := fun p hp q hq e => by
    rcases nw q hq with ⟨o, ho⟩ | hn
    · exact off _ ho _ (List.mem_map_of_mem hp) e.symm
    · have := (N p (List.mem_append_left _ hp)).1
      rw [e, hn] at this
      cases this
  refine ⟨fun p hp => ?_, fun q hq b hb e => ?_⟩
  · rcases List.mem_append.mp hp with hp | hp
    · have z := N p (List.mem_append_left _ hp)
      exact ⟨kb _ _ z.1 fun hm => by
        obtain ⟨q, hq, e⟩ := List.mem_map.mp hm
        exact offP p hp q hq e.symm, z.2⟩
    · rcases List.mem_append.mp hp with hp | hp
      · exact N' p hp
      · have hf := List.mem_filter.mp hp
        have z := N p (List.mem_append_right _ hf.1)
        exact ⟨kb _ _ z.1 (of_decide_eq_true hf.2), z.2⟩
  · obtain ⟨p, hp, rfl⟩ := List.mem_map.mp hb
    rcases List.mem_append.mp hq with hq | hq
    · exact offP p hp q hq e.symm
    · exact off q (List.mem_filter.mp hq).1 _ (List.mem_map_of_mem hp) e
theorem tup_ne {h₀ h : Heap} {L : Addr} {news : List (Addr × Obj)} (N : News h₀ L h news) {a b : Addr} {oa ob : Obj} (ha : (a, oa) ∈ news) (hb : (b, ob) ∈ news) (hc : oa.cls ≠ ob.cls) : @Ne Nat a b := fun e => by
  have h1 := (N _ ha).1
  have h2 := (N _ hb).1
  dsimp only at h1 h2
  rw [show a = b from e, h2] at h1
  exact hc (by cases h1; rfl)
theorem isDict_cls {w : World} {o : Obj} {kvs : List (Int × Value)} (h : o.IsDictOf (PySem.intKind Challenge.rw_xw0347_01.row.prog w) kvs) : o.cls = .type "dict" := by
  obtain ⟨es, ep, he, _⟩ := h
  exact he.1
theorem WI.kin {w : World} {whl wd sl lt en : Addr} {tm : Int → Option Int} {bd : Nat} {kp prv : List (Addr × Obj)} (W : WI w whl wd sl lt en tm bd kp prv) {p : Addr × Obj} (h : p ∈ kp) : p ∈ prv := (W.kps p h).1
theorem WI.mono {w : World} {whl wd sl lt en : Addr} {tm : Int → Option Int} {bd bd' : Nat} {kp prv : List (Addr × Obj)} (W : WI w whl wd sl lt en tm bd kp prv) (h : bd ≤ bd') : WI w whl wd sl lt en tm bd' kp prv where
  kps := W.kps
  sls := by
    obtain ⟨svs, n, h1, h2⟩ := W.sls
    refine ⟨svs, n, h1, fun j hj => ?_⟩
    obtain ⟨x, vs, ns, n', h3, h4, h5, h6, h7⟩ := h2 j hj
    exact ⟨x, vs, ns, n', h3, h4, h5, Nat.le_trans h6 h, h7⟩
  lat := W.lat
  ents := by
    obtain ⟨oe, kvs, h1, h2, h3, h4⟩ := W.ents
    exact ⟨oe, kvs, h1, h2, Nat.le_trans h3 h, h4⟩
theorem time_w {w : World} {mean : ExcName → Option Value} {mg mb : Str → Option Value} (dp un : Nat) (gd : Option (List Code)) (cn : Str) (cs : Scope) (a : Addr) (ccd : Value) (cl : List (Str × Addr)) (outer : List Env) (A₀ : Around) (base h₀ : Heap) (L : Addr) (m : Str → Option Value) (s : Shared) (Q E : Value → Shared → Prop)
    (whl wd sl lt en : Addr) (k : Nat → Tok) (gv : Int) (tg : Tok) (tm : Int → Option Int) (bd : Nat) (kp prv news : List (Addr × Obj)) (key : Int) (tk : Tok)
    (B : Below A₀ base outer h₀) (F : Fr h₀ L s.heap m) (X : (Tr.pre.heap_1_39 w.params).In h₀) (N : News h₀ L s.heap news) (T : Top Tr.pre.view_1_40 (looseW Tr.pre.view_1_40 [Str.ofString "Sender", Str.ofString "Tcb"]) mean mg mb h₀) (hk : cs.kind = .function) (hdp : dp + 1 < recursionLimit) (hsub : ∀ p ∈ prv, p ∈ news) (m0 : (whl, instObj 740 wd) ∈ prv) (m1 : (wd, oW w.params k sl lt en gv tg) ∈ prv) (S : WSt whl wd sl lt en) (W : WI w whl wd sl lt en tm bd kp prv)
    (hret0 : ∀ h' tk', tm key = none → Fr h₀ L h' m → News h₀ L h' news → Q .none { s with heap := h', toks := tk' })
    (hret1 : ∀ t t1 h' tk', tm key = some t → Fr h₀ L h' m → News h₀ L h' news → Q (.int t t1) { s with heap := h', toks := tk' }) :
    wpAny (model Challenge.rw_xw0347_01.row.prog w) (ktrTop dp un gd cn cs L a ccd cl outer) (call (.ref 718) [.ref whl, .int key tk]) Q E s := by
  obtain ⟨oe, kvs, he, hd, _, h0, hn⟩ := W.ents
  cases hv : tm key with
  | none => exact time_none dp un gd cn cs a ccd cl outer A₀ base h₀ L m s Q E whl wd sl lt en (k 66) (k 68) (k 69) (k 70) (k 71) (k 72) (k 67) tg gv oe kvs key tk news B F X N T hk hdp (hsub _ m0) (hsub _ m1) (hsub _ he) hd S.lo (by rw [h0 key hv]; rfl) (fun h' tk' F' N' => hret0 h' tk' hv F' N')
  | some t =>
    obtain ⟨ta, t1, g, t2, nt, h1, h2⟩ := hn key t hv
    exact time_some dp un gd cn cs a ccd cl outer A₀ base h₀ L m s Q E whl wd sl lt en (k 66) (k 68) (k 69) (k 70) (k 71) (k 72) (k 67) tg gv oe kvs key tk ta t g t1 t2 nt news B F X N T hk hdp (hsub _ m0) (hsub _ m1) (hsub _ he) (hsub _ h2) hd S.lo h1 (by rw [h1]; rfl) (fun h' tk' F' N' => hret1 t t1 h' tk' hv F' N')
noncomputable def tmDel (tm : Int → Option Int) (key : Int) : Int → Option Int := fun k => if k = key then none else tm k
noncomputable def tmPut (tm : Int → Option Int) (key t : Int) : Int → Option Int := fun k => if k = key then some t else tm k
theorem val_without {kvs : List (Int × Value)} {k j : Int} : valueAt (without kvs k) j = if j = k then none else valueAt kvs j := by
  induction kvs with
  | nil => simp [valueAt, without]
  | cons p r ih =>
    simp only [valueAt, without, List.filter_cons, List.find?_cons] at ih ⊢
    by_cases h1 : p.1 = k
    · simp only [h1]
      by_cases h2 : j = k
      · subst h2; simpa using ih
      · have h3 : ¬ k = j := fun e => h2 e.symm
        simpa [h2, h3] using ih
    · by_cases h2 : j = k
      · subst h2
        simpa [h1] using ih
      · by_cases h3 : p.1 = j
        · simp [h1, h2, h3]
        · simpa [h1, h2, h3] using ih
theorem val_stored {kvs : List (Int × Value)} {k j : Int} {v : Value} (hk : valueAt kvs k = none) : valueAt (stored kvs k v) j = if j = k then some v else valueAt kvs j := by
  have hany : (kvs.any fun kv => kv.1 = k) = false := by
    rw [Bool.eq_false_iff]
    intro h
    obtain ⟨x, hx, hp⟩ := List.any_eq_true.mp h
    have : (kvs.find? fun kv => decide (kv.1 = k)).isSome := List.find?_isSome.mpr ⟨x, hx, hp⟩
    unfold valueAt at hk
    rw [Option.map_eq_none_iff] at hk
    rw [hk] at this
    cases this
  unfold stored
  rw [if_neg (by rw [hany]; decide)]
  unfold valueAt at hk ⊢
  rw [List.find?_append]
  by_cases h : j = k
  · subst h
    rw [Option.map_eq_none_iff] at hk
    rw [hk]
    simp
  · have h' : ¬ k = j := fun e => h e.symm
    simp [h, h']
theorem len_stored (kvs : List (Int × Value)) (k : Int) (v : Value) : (stored kvs k v).length ≤ kvs.length + 1 := by
  unfold stored
  split <;> simp
theorem len_without (kvs : List (Int × Value)) (k : Int) : (without kvs k).length ≤ kvs.length := List.length_filter_le _ _
end
-- L3
section
theorem norowsL3 : True := by
  k_with_none
  exact True.intro
theorem objx {o o' : Obj} (h : some o = some o') (hc : o.cls ≠ o'.cls) : False := hc (by rw [Option.some.inj h])
theorem nin2 {a b c : Addr} (h1 : @Ne Nat a b) (h2 : @Ne Nat a c) : a ∉ [b, c] := by
  intro h
  rcases List.mem_cons.mp h with h | h
  · exact h1 h
  · exact h2 (List.mem_singleton.mp h)
theorem nin4 {a b c d e : Addr} (h1 : @Ne Nat a b) (h2 : @Ne Nat a c) (h3 : @Ne Nat a d) (h4 : @Ne Nat a e) : a ∉ [b, c, d, e] := by
  intro h
  rcases List.mem_cons.mp h with h | h
  · exact h1 h
  · rcases List.mem_cons.mp h with h | h
    · exact h2 h
    · rcases List.mem_cons.mp h with h | h
      · exact h3 h
      · exact h4 (List.mem_singleton.mp h)
theorem same_at {h₀ h : Heap} {L : Addr} {news : List (Addr × Obj)} (N : News h₀ L h news) {a : Addr} {o o' : Obj} (h1 : (a, o) ∈ news) (h2 : h.get? a = some o') : o' = o := by
  have := (N _ h1).1
  dsimp only at this
  rw [h2] at this
  exact Option.some.inj this
theorem tmDel_none {tm : Int → Option Int} {key : Int} (h : tm key = none) : tmDel tm key = tm := by
  funext k
  unfold tmDel
  by_cases e : k = key
  · rw [if_pos e, e, h]
  · rw [if_neg e]
theorem cancelW {w : World} {mean : ExcName → Option Value} {mg mb : Str → Option Value} (dp un : Nat) (gd : Option (List Code)) (cn : Str) (cs : Scope) (a : Addr) (ccd : Value) (cl : List (Str × Addr)) (outer : List Env) (A₀ : Around) (base h₀ : Heap) (L : Addr) (m : Str → Option Value) (s : Shared) (Q E : Value → Shared → Prop)
    (whl wd sl lt en : Addr) (k : Nat → Tok) (gv : Int) (tg : Tok) (tm : Int → Option Int) (bd : Nat) (kp prv news pub : List (Addr × Obj)) (key : Int) (tk : Tok)
    (B : Below A₀ base outer h₀) (F : Fr h₀ L s.heap m) (X : (Tr.pre.heap_1_39 w.params).In h₀) (N : News h₀ L s.heap news) (T : Top Tr.pre.view_1_40 (looseW Tr.pre.view_1_40 [Str.ofString "Sender", Str.ofString "Tcb"]) mean mg mb h₀) (hk : cs.kind = .function) (hdp : dp + 1 < recursionLimit) (sp : Spl prv news pub) (off : OwnOff prv (pub.map (·.1))) (m0 : (whl, instObj 740 wd) ∈ prv) (m1 : (wd, oW w.params k sl lt en gv tg) ∈ prv) (S : WSt whl wd sl lt en) (W : WI w whl wd sl lt en tm bd kp prv) (hbd : bd ≤ 1000)
    (hret : ∀ prv' h' tk', (whl, instObj 740 wd) ∈ prv' → (wd, oW w.params k sl lt en gv tg) ∈ prv' → WI w whl wd sl lt en (tmDel tm key) bd kp prv' → OwnOff prv' (pub.map (·.1)) → Fr h₀ L h' m → News h₀ L h' (pub ++ prv') → Q .none { s with heap := h', toks := tk' }) :
    wpAny (model Challenge.rw_xw0347_01.row.prog w) (ktrTop dp un gd cn cs L a ccd cl outer) (call (.ref 711) [.ref whl, .int key tk]) Q E s := by
  have hsub : ∀ p ∈ prv, p ∈ news := fun p hp => by rw [sp.eq]; exact List.mem_append_right _ hp
  have Np : News h₀ L s.heap prv := fun p hp => N p (hsub p hp)
  obtain ⟨oe, kvs, he, hd, hlen, hn, hs⟩ := W.ents
  have hline : ∀ n : Nat, n ≤ bd → n ≤ sizeLine := fun n h => by rw [PySem.sizeLine_eq]; omega
  cases htm : tm key with
  | none =>
    refine cancel_none dp un gd cn cs a ccd cl outer A₀ base h₀ L m s Q E whl wd sl lt en (k 66) (k 68) (k 69) (k 70) (k 71) (k 72) (k 67) tg gv oe kvs key tk news B F X N T hk hdp (hsub _ m0) (hsub _ m1) (hsub _ he) hd S.lo (by rw [hn key htm]; rfl) (fun h' tk' F' N' => ?_)
    exact hret prv h' tk' m0 m1 (by rw [tmDel_none htm]; exact W) off F' (by rw [← sp.eq]; exact N')
  | some t =>
    obtain ⟨ta, t1, g, t2, nt, h1, h2⟩ := hs key t htm
    obtain ⟨svs, n1, hsl, hj⟩ := W.sls
    obtain ⟨n2, hlt⟩ := W.lat
    have hm0 : 0 ≤ t.fmod 16 := fmod_lo _ (by decide)
    have hm1 : t.fmod 16 < 16 := fmod_hi _ (by decide)
    obtain ⟨x, vs, ns, n3, hx, hxm, hi, hl, x1, x2, x3, x4, x5⟩ := hj (t.fmod 16).toNat (by omega)
    have dta : ∀ (b : Addr) (ob : Obj), (b, ob) ∈ prv → ob.cls ≠ .type "tuple" → @Ne Nat b ta := fun b ob hb hc => tup_ne Np hb h2 hc
    have ecls : oe.cls ≠ .type "tuple" := by rw [isDict_cls hd]; decide
    refine cancel_some dp un gd cn cs a ccd cl outer A₀ base h₀ L m s Q E whl wd sl lt en (k 66) (k 68) (k 69) (k 70) (k 71) (k 72) (k 67) tg gv oe kvs key tk ta x t g t1 t2 nt n1 n2 n3 svs vs ns B F X
      (fun p hp => Np p ((List.forall_mem_cons.mpr ⟨m0, List.forall_mem_cons.mpr ⟨m1, List.forall_mem_cons.mpr ⟨he, List.forall_mem_cons.mpr ⟨hsl, List.forall_mem_cons.mpr ⟨hlt, List.forall_mem_cons.mpr ⟨h2, List.forall_mem_cons.mpr ⟨hxm, List.forall_mem_nil _⟩⟩⟩⟩⟩⟩⟩ : ∀ p ∈ [(whl, instObj 740 wd), (wd, oW w.params k sl lt en gv tg), (en, oe), (sl, listOf svs.toArray n1), (lt, listOf [].toArray n2), (ta, tupO t t1 g t2 nt), (x, listOf vs.toArray n3)], p ∈ prv) p hp))
      T hk hdp hd S.lo h1 (by rw [h1]; rfl) (hline _ hlen) hx hi (hline _ hl) S.e1 S.e2 S.e3 S.e4 (dta en oe he ecls) (Ne.symm x5) x1 x2 x3 x4 (dta x _ hxm (by show Value.type "list" ≠ Value.type "tuple"; decide)) (fun o' vs' ns' n' h' tk' hd' hi' hl' kb nw F' N' => ?_)
    have e1 : h'.get? whl = some (instObj 740 wd) := (N' (whl, instObj 740 wd) (.head _)).1
    have e2 : h'.get? wd = some (oW w.params k sl lt en gv tg) := (N' (wd, _) (.tail _ (.head _))).1
    have e4 : h'.get? sl = some (listOf svs.toArray n1) := (N' (sl, _) (.tail _ (.tail _ (.tail _ (.head _))))).1
    have e5 : h'.get? lt = some (listOf [].toArray n2) := (N' (lt, _) (.tail _ (.tail _ (.tail _ (.tail _ (.head _)))))).1
    have e6 : h'.get? ta = some (tupO t t1 g t2 nt) := (N' (ta, _) (.tail _ (.tail _ (.tail _ (.tail _ (.tail _ (.head _))))))).1
    have kb2 : KeepBut s.heap h' [en, x] := fun b o hb hnb => by
      by_cases hA : b ∈ [whl, wd, en, sl, lt, ta, x]
      · simp only [List.mem_cons, List.not_mem_nil, or_false] at hA hnb
        rcases hA with e | e | e | e | e | e | e
        · rw [e] at hb ⊢; rw [same_at Np m0 hb]; exact e1
        · rw [e] at hb ⊢; rw [same_at Np m1 hb]; exact e2
        · exact absurd (Or.inl e) hnb
        · rw [e] at hb ⊢; rw [same_at Np hsl hb]; exact e4
        · rw [e] at hb ⊢; rw [same_at Np hlt hb]; exact e5
        · rw [e] at hb ⊢; rw [same_at Np h2 hb]; exact e6
        · exact absurd (Or.inr e) hnb
      · exact kb b o hb hA
    have N2 : News h₀ L h' [(en, o'), (x, listOf vs'.toArray n')] := fun p hp => by
      rcases List.mem_cons.mp hp with rfl | hp
      · exact N' _ (.tail _ (.tail _ (.head _)))
      · rw [List.mem_singleton.mp hp]
        exact N' _ (.tail _ (.tail _ (.tail _ (.tail _ (.tail _ (.tail _ (.head _)))))))
    obtain ⟨NN, OO⟩ := wheel_after (ch := [(en, o'), (x, listOf vs'.toArray n')]) N sp off kb2 (fun q hq => by
      rcases List.mem_cons.mp hq with rfl | hq
      · exact .inl ⟨_, he⟩
      · rw [List.mem_singleton.mp hq]; exact .inl ⟨_, hxm⟩) N2
    have old : ∀ (b : Addr) (ob : Obj), (b, ob) ∈ prv → @Ne Nat b en → @Ne Nat b x → (b, ob) ∈ repl [(en, o'), (x, listOf vs'.toArray n')] prv := fun b ob hb h3 h4 => repl_old hb (nin2 h3 h4)
    refine hret _ h' tk' (old _ _ m0 (Ne.symm S.e1) (Ne.symm x1)) (old _ _ m1 (Ne.symm S.e2) (Ne.symm x2)) ⟨fun p hp => ⟨old _ _ (W.kps p hp).1 (W.kps p hp).2.2.2 (tup_ne Np (W.kps p hp).1 hxm (W.kps p hp).2.1), (W.kps p hp).2⟩, ?_, ?_, ?_⟩ OO F' NN
    · refine ⟨svs, n1, old _ _ hsl (Ne.symm S.e3) (Ne.symm x3), fun j hjl => ?_⟩
      obtain ⟨y, us, ms, n4, hy, hym, hiy, hly, y1, y2, y3, y4, y5⟩ := hj j hjl
      by_cases hyx : y = x
      · subst hyx
        exact ⟨y, vs', ns', n', hy, repl_new (.tail _ (.head _)), hi', Nat.le_trans hl' hl, y1, y2, y3, y4, y5⟩
      · exact ⟨y, us, ms, n4, hy, old _ _ hym y5 hyx, hiy, hly, y1, y2, y3, y4, y5⟩
    · exact ⟨n2, old _ _ hlt (Ne.symm S.e4) (Ne.symm x4)⟩
    · refine ⟨o', without kvs key, repl_new (.head _), hd', Nat.le_trans (len_without _ _) hlen, fun k hk' => ?_, fun k u hk' => ?_⟩
      · rw [val_without]
        unfold tmDel at hk'
        by_cases e : k = key
        · rw [if_pos e]
        · rw [if_neg e] at hk' ⊢
          exact hn k hk'
      · unfold tmDel at hk'
        by_cases e : k = key
        · rw [if_pos e] at hk'; cases hk'
        · rw [if_neg e] at hk'
          obtain ⟨tb, u1, g', u2, nt', h3, h4⟩ := hs k u hk'
          exact ⟨tb, u1, g', u2, nt', by rw [val_without, if_neg e]; exact h3, old _ _ h4 (tup_ne Np h4 he (by rw [isDict_cls hd]; show Value.type "tuple" ≠ Value.type "dict"; decide)) (tup_ne Np h4 hxm (by show Value.type "tuple" ≠ Value.type "list"; decide))⟩
theorem putW {w : World} {mean : ExcName → Option Value} {mg mb : Str → Option Value} (dp un : Nat) (gd : Option (List Code)) (cn : Str) (cs : Scope) (a : Addr) (ccd : Value) (cl : List (Str × Addr)) (outer : List Env) (A₀ : Around) (base h₀ : Heap) (L : Addr) (m : Str → Option Value) (s : Shared) (Q E : Value → Shared → Prop)
    (whl wd sl lt en : Addr) (k : Nat → Tok) (gv : Int) (tg : Tok) (tm : Int → Option Int) (bd : Nat) (kp prv news pub : List (Addr × Obj)) (key t : Int) (tk tt : Tok)
    (B : Below A₀ base outer h₀) (F : Fr h₀ L s.heap m) (X : (Tr.pre.heap_1_39 w.params).In h₀) (N : News h₀ L s.heap news) (T : Top Tr.pre.view_1_40 (looseW Tr.pre.view_1_40 [Str.ofString "Sender", Str.ofString "Tcb"]) mean mg mb h₀) (hk : cs.kind = .function) (hdp : dp + 2 < recursionLimit) (sp : Spl prv news pub) (off : OwnOff prv (pub.map (·.1))) (m0 : (whl, instObj 740 wd) ∈ prv) (m1 : (wd, oW w.params k sl lt en gv tg) ∈ prv) (S : WSt whl wd sl lt en) (W : WI w whl wd sl lt en tm bd kp prv) (hbd : bd ≤ 1000) (htm : tm key = none)
    (hret : ∀ prv' h' tk' tg', (whl, instObj 740 wd) ∈ prv' → (wd, oW w.params k sl lt en (gv + 1) tg') ∈ prv' → WI w whl wd sl lt en (tmPut tm key t) (bd + 1) kp prv' → OwnOff prv' (pub.map (·.1)) → Fr h₀ L h' m → News h₀ L h' (pub ++ prv') → Q .none { s with heap := h', toks := tk' }) :
    wpAny (model Challenge.rw_xw0347_01.row.prog w) (ktrTop dp un gd cn cs L a ccd cl outer) (call (.ref 697) [.ref whl, .int key tk, .int t tt]) Q E s := by
  have hsub : ∀ p ∈ prv, p ∈ news := fun p hp => by rw [sp.eq]; exact List.mem_append_right _ hp
  have Np : News h₀ L s.heap prv := fun p hp => N p (hsub p hp)
  refine keepG fun G9 hG9 => ?_
  obtain ⟨oe, kvs, he, hd, hlen, hn, hs⟩ := W.ents
  have hline : ∀ n : Nat, n ≤ bd → n ≤ sizeLine := fun n h => by rw [PySem.sizeLine_eq]; omega
  obtain ⟨svs, n1, hsl, hj⟩ := W.sls
  obtain ⟨n2, hlt⟩ := W.lat
  have hm0 : 0 ≤ t.fmod 16 := fmod_lo _ (by decide)
  have hm1 : t.fmod 16 < 16 := fmod_hi _ (by decide)
  obtain ⟨x, vs, ns, n3, hx, hxm, hi, hl, x1, x2, x3, x4, x5⟩ := hj (t.fmod 16).toNat (by omega)
  refine hG9 ?_
  refine put_new dp un gd cn cs a ccd cl outer A₀ base h₀ L m s Q E whl wd sl lt en (k 66) (k 68) (k 69) (k 70) (k 71) (k 72) (k 67) tg gv oe kvs key t tk tt x n1 n2 n3 svs vs ns B F X
    (fun p hp => Np p ((List.forall_mem_cons.mpr ⟨m0, List.forall_mem_cons.mpr ⟨m1, List.forall_mem_cons.mpr ⟨he, List.forall_mem_cons.mpr ⟨hsl, List.forall_mem_cons.mpr ⟨hlt, List.forall_mem_cons.mpr ⟨hxm, List.forall_mem_nil _⟩⟩⟩⟩⟩⟩ : ∀ p ∈ [(whl, instObj 740 wd), (wd, oW w.params k sl lt en gv tg), (en, oe), (sl, listOf svs.toArray n1), (lt, listOf [].toArray n2), (x, listOf vs.toArray n3)], p ∈ prv) p hp))
    T hk (Nat.lt_of_succ_lt hdp) hd S.lo (by rw [hn key htm]; rfl) (hline _ hlen) hx hi (hline _ hl) S.e1 S.e2 S.e3 S.e4 (Ne.symm x5) x1 x2 x3 x4 S.w1 S.w2 S.w3 (fun o' ta tg' t2 nt h' tk' hd' kb nw F' N' => ?_)
  have e1 : h'.get? whl = some (instObj 740 wd) := (N' (whl, instObj 740 wd) (.tail _ (.head _))).1
  have e4 : h'.get? sl = some (listOf svs.toArray n1) := (N' (sl, _) (.tail _ (.tail _ (.tail _ (.tail _ (.head _)))))).1
  have e5 : h'.get? lt = some (listOf [].toArray n2) := (N' (lt, _) (.tail _ (.tail _ (.tail _ (.tail _ (.tail _ (.head _))))))).1
  have kb2 : KeepBut s.heap h' [ta, wd, en, x] := fun b o hb hnb => by
    by_cases hA : b ∈ [whl, wd, en, sl, lt, x]
    · simp only [List.mem_cons, List.not_mem_nil, or_false] at hA hnb
      rcases hA with e | e | e | e | e | e
      · rw [e] at hb ⊢; rw [same_at Np m0 hb]; exact e1
      · exact absurd (Or.inr (Or.inl e)) hnb
      · exact absurd (Or.inr (Or.inr (Or.inl e))) hnb
      · rw [e] at hb ⊢; rw [same_at Np hsl hb]; exact e4
      · rw [e] at hb ⊢; rw [same_at Np hlt hb]; exact e5
      · exact absurd (Or.inr (Or.inr (Or.inr e))) hnb
    · exact kb b o hb hA
  have hpush : (vs ++ [Value.int key tk]).toArray = vs.toArray.push (Value.int key tk) := by simp
  have N2 : News h₀ L h' [(ta, tupO t tt (gv + 1) t2 nt), (wd, oW w.params k sl lt en (gv + 1) tg'), (en, o'), (x, listOf (vs ++ [Value.int key tk]).toArray (n3 + 1))] := fun p hp => by
    rcases List.mem_cons.mp hp with rfl | hp
    · exact N' _ (.head _)
    · rcases List.mem_cons.mp hp with rfl | hp
      · exact N' _ (.tail _ (.tail _ (.head _)))
      · rcases List.mem_cons.mp hp with rfl | hp
        · exact N' _ (.tail _ (.tail _ (.tail _ (.head _))))
        · rw [List.mem_singleton.mp hp, hpush]
          exact N' _ (.tail _ (.tail _ (.tail _ (.tail _ (.tail _ (.tail _ (.head _)))))))
  have tne : ∀ (b : Addr) (ob : Obj), (b, ob) ∈ prv → @Ne Nat b ta := fun b ob hb e => by
    rcases nw (ta, tupO t tt (gv + 1) t2 nt) (.head _) with hm | hm
    · simp only [List.mem_cons, List.not_mem_nil, or_false] at hm
      have hT := (N' (ta, tupO t tt (gv + 1) t2 nt) (.head _)).1
      dsimp only at hT
      rcases hm with hm | hm | hm | hm | hm | hm
      · rw [hm, e1] at hT; exact objx hT (by show Value.ref 740 ≠ Value.type "tuple"; decide)
      · rw [hm, (N' (wd, _) (.tail _ (.tail _ (.head _)))).1] at hT; exact objx hT (by show Value.type "dict" ≠ Value.type "tuple"; decide)
      · rw [hm, (N' (en, _) (.tail _ (.tail _ (.tail _ (.head _))))).1] at hT
        exact objx hT (by rw [isDict_cls hd']; show Value.type "dict" ≠ Value.type "tuple"; decide)
      · rw [hm, e4] at hT; exact objx hT (by show Value.type "list" ≠ Value.type "tuple"; decide)
      · rw [hm, e5] at hT; exact objx hT (by show Value.type "list" ≠ Value.type "tuple"; decide)
      · rw [hm, (N' (x, _) (.tail _ (.tail _ (.tail _ (.tail _ (.tail _ (.tail _ (.head _)))))))).1] at hT; exact objx hT (by show Value.type "list" ≠ Value.type "tuple"; decide)
    · have := (Np _ hb).1
      dsimp only at this hm
      rw [show b = ta from e, hm] at this
      cases this
  obtain ⟨NN, OO⟩ := wheel_after (ch := [(ta, tupO t tt (gv + 1) t2 nt), (wd, oW w.params k sl lt en (gv + 1) tg'), (en, o'), (x, listOf (vs ++ [Value.int key tk]).toArray (n3 + 1))]) N sp off kb2 (fun q hq => by
    rcases List.mem_cons.mp hq with rfl | hq
    · rcases nw (ta, tupO t tt (gv + 1) t2 nt) (.head _) with hm | hm
      · simp only [List.mem_cons, List.not_mem_nil, or_false] at hm
        rcases hm with hm | hm | hm | hm | hm | hm
        · exact absurd hm.symm (tne _ _ m0)
        · exact absurd hm.symm (tne _ _ m1)
        · exact absurd hm.symm (tne _ _ he)
        · exact absurd hm.symm (tne _ _ hsl)
        · exact absurd hm.symm (tne _ _ hlt)
        · exact absurd hm.symm (tne _ _ hxm)
      · exact .inr hm
    · rcases List.mem_cons.mp hq with rfl | hq
      · exact .inl ⟨_, m1⟩
      · rcases List.mem_cons.mp hq with rfl | hq
        · exact .inl ⟨_, he⟩
        · rw [List.mem_singleton.mp hq]; exact .inl ⟨_, hxm⟩) N2
  have old : ∀ (b : Addr) (ob : Obj), (b, ob) ∈ prv → @Ne Nat b wd → @Ne Nat b en → @Ne Nat b x → (b, ob) ∈ repl [(ta, tupO t tt (gv + 1) t2 nt), (wd, oW w.params k sl lt en (gv + 1) tg'), (en, o'), (x, listOf (vs ++ [Value.int key tk]).toArray (n3 + 1))] prv :=
    fun b ob hb h2 h3 h4 => repl_old hb (nin4 (tne b ob hb) h2 h3 h4)
  refine hret _ h' tk' tg' (old _ _ m0 (Ne.symm S.w1) (Ne.symm S.e1) (Ne.symm x1)) (repl_new (.tail _ (.head _))) ⟨fun p hp => ⟨old _ _ (W.kps p hp).1 (W.kps p hp).2.2.1 (W.kps p hp).2.2.2 (tup_ne Np (W.kps p hp).1 hxm (W.kps p hp).2.1), (W.kps p hp).2⟩, ?_, ?_, ?_⟩ OO F' NN
  · refine ⟨svs, n1, old _ _ hsl (Ne.symm S.w2) (Ne.symm S.e3) (Ne.symm x3), fun j hjl => ?_⟩
    obtain ⟨y, us, ms, n4, hy, hym, hiy, hly, y1, y2, y3, y4, y5⟩ := hj j hjl
    by_cases hyx : y = x
    · subst hyx
      exact ⟨y, vs ++ [Value.int key tk], ns ++ [key], n3 + 1, hy, repl_new (.tail _ (.tail _ (.tail _ (.head _)))), IntsAre.append hi (IntsAre.cons _ _ IntsAre.nil), by rw [List.length_append]; exact Nat.succ_le_succ hl, y1, y2, y3, y4, y5⟩
    · exact ⟨y, us, ms, n4, hy, old _ _ hym y2 y5 hyx, hiy, Nat.le_succ_of_le hly, y1, y2, y3, y4, y5⟩
  · exact ⟨n2, old _ _ hlt (Ne.symm S.w3) (Ne.symm S.e4) (Ne.symm x4)⟩
  · refine ⟨o', stored kvs key (.ref ta), repl_new (.tail _ (.tail _ (.head _))), hd', Nat.le_trans (len_stored _ _ _) (Nat.succ_le_succ hlen), fun k hk' => ?_, fun k u hk' => ?_⟩
    · unfold tmPut at hk'
      by_cases e : k = key
      · rw [if_pos e] at hk'; cases hk'
      · rw [if_neg e] at hk'
        rw [val_stored (hn key htm), if_neg e]
        exact hn k hk'
    · unfold tmPut at hk'
      by_cases e : k = key
      · rw [if_pos e] at hk'
        cases hk'
        exact ⟨ta, tt, gv + 1, t2, nt, by rw [val_stored (hn key htm), if_pos e], repl_new (.head _)⟩
      · rw [if_neg e] at hk'
        obtain ⟨tb, u1, g', u2, nt', h3, h4⟩ := hs k u hk'
        exact ⟨tb, u1, g', u2, nt', by rw [val_stored (hn key htm), if_neg e]; exact h3, old _ _ h4 (tup_ne Np h4 m1 (by show Value.type "tuple" ≠ Value.type "dict"; decide)) (tup_ne Np h4 he (by rw [isDict_cls hd]; show Value.type "tuple" ≠ Value.type "dict"; decide)) (tup_ne Np h4 hxm (by show Value.type "tuple" ≠ Value.type "list"; decide))⟩
end
-- T4
section
theorem rowsT4x1 : True := by
  k_with_none
  k_with "data" => (repeat ((fail_if_success (refine Classical.byContradiction ?_)); rotate_left))
  k_with "callWith ref" => (k_here; k_dflt (refine' callWith_K (by with_reducible assumption) (by k_is) ?_; k_whole))
  k_with "callWith ref" => (k_here; (with_reducible show wpAny _ _ (callWith _ _ _ (backTo _ (starEach [] _)) []) _ _ _); (with_reducible rename Fr _ _ _ _ => kF); k_dflt (refine' callWith_K0 (Frag.In.keeps (by with_reducible assumption) (Fr.keep kF)) (by k_is) ?_; k_whole))
  k_with "call builtin:min" => (k_here; (with_reducible show wpAny _ _ (call (Value.builtin _) [Value.int _ _, Value.int _ _]) _ _ _); (with_unfolding_all refine' min2_K (by with_unfolding_all rfl) (by k_asm) (by k_asm) ?_; k_whole); (intro h' tk' r9 tr9 hr1 hr2 hr3 F' N'); (try k_sweep))
  k_with "call builtin:max" => (k_here; (with_reducible show wpAny _ _ (call (Value.builtin _) [Value.int _ _, Value.int _ _]) _ _ _); (with_unfolding_all refine' max2_K (by with_unfolding_all rfl) (by k_asm) (by k_asm) ?_; k_whole); (intro h' tk' r9 tr9 hr1 hr2 hr3 F' N'); (try k_sweep))
  k_with "call builtin:min" => (k_here; (with_reducible show wpAny _ _ (call (Value.builtin _) [Value.int _ _, Value.int _ _, Value.int _ _]) _ _ _); (with_unfolding_all refine' min3_K (by with_unfolding_all rfl) (by k_asm) (by k_asm) ?_; k_whole); (intro h' tk' r9 tr9 hr1 hr2 hr3 hr4 F' N'); (try k_sweep))
  exact True.intro
noncomputable def clampE (t : Int) : Int := if t < 5 then 5 else if t > 60 then 60 else t
noncomputable def wt (tries : Int) : Int := if tries = 0 then 10 else if tries = 1 then 20 else 40
noncomputable def pw (p : Int) : Int := if p = 0 then 10 else if p = 1 then 20 else if p = 2 then 40 else 60
set_option maxRecDepth 100000 in
set_option maxHeartbeats 8000000 in
theorem bounded_ok {w : World} {mean : ExcName → Option Value} {mg mb : Str → Option Value} (dp un : Nat) (gd : Option (List Code)) (cn : Str) (cs : Scope) (a : Addr) (ccd : Value) (cl : List (Str × Addr)) (outer : List Env) (A₀ : Around) (base h₀ : Heap) (L : Addr) (m : Str → Option Value) (s : Shared) (Q E : Value → Shared → Prop)
    (k : Nat → Tok) (est : Addr) (ed : Addr) (t : Int) (tt : Tok) (news : List (Addr × Obj))
    (B : Below A₀ base outer h₀) (F : Fr h₀ L s.heap m) (X : (Tr.pre.heap_1_39 w.params).In h₀) (N : News h₀ L s.heap news)
    (T : Top Tr.pre.view_1_40 (looseW Tr.pre.view_1_40 [Str.ofString "Sender", Str.ofString "Tcb"]) mean mg mb h₀) (hk : cs.kind = .function)
    (hdp : dp + 2 < recursionLimit) (m0 : (est, instObj 333 ed) ∈ news) (m1 : (ed, oE w.params k) ∈ news) 
    (hret : ∀ t9 h' tk', Fr h₀ L h' m → News h₀ L h' news → Q (.int (clampE t) t9) { s with heap := h', toks := tk' }) :
    wpAny (model Challenge.rw_xw0347_01.row.prog w) (ktrTop dp un gd cn cs L a ccd cl outer) (call (.ref 330) [.ref est, .int t tt]) Q E s := by
  revert X; k_fill; intro X
  refine wpAny_call ?_
  k_dflt ktr_enter
  k_steps
  all_goals (refine' cb_retI (x := clampE t) (fun t h' tk' => hret t h' tk') ?e ?F ?N; (case F => k_asm); (case N => k_asm); (case e => (unfold clampE; (repeat (split)) <;> omega)))
theorem rowsT4x2 : True := by
  k_with "call ref" => (k_here; (with_reducible show wpAny _ _ (call (Value.ref 330) _) _ _ _); k_dflt ((refine' bounded_ok _ _ _ _ _ _ _ _ _ _ _ _ _ _ _ _ _ _ _ _ _ _ _ (by k_asm) (by k_asm) (by k_asm) (by k_asm) (by k_asm) (by first | exact rfl | assumption) (by ktr_room) (by first | with_reducible assumption | k_mem) (by first | with_reducible assumption | k_mem)  ?_; (intro t9 h9 tk9 F9 N9); (try k_sweep); (try dsimp only); (try k_fold))))
  exact True.intro
set_option maxRecDepth 100000 in
set_option maxHeartbeats 8000000 in
theorem timeout_ok {w : World} {mean : ExcName → Option Value} {mg mb : Str → Option Value} (dp un : Nat) (gd : Option (List Code)) (cn : Str) (cs : Scope) (a : Addr) (ccd : Value) (cl : List (Str × Addr)) (outer : List Env) (A₀ : Around) (base h₀ : Heap) (L : Addr) (m : Str → Option Value) (s : Shared) (Q E : Value → Shared → Prop)
    (k : Nat → Tok) (est : Addr) (ed : Addr) (news : List (Addr × Obj))
    (B : Below A₀ base outer h₀) (F : Fr h₀ L s.heap m) (X : (Tr.pre.heap_1_39 w.params).In h₀) (N : News h₀ L s.heap news)
    (T : Top Tr.pre.view_1_40 (looseW Tr.pre.view_1_40 [Str.ofString "Sender", Str.ofString "Tcb"]) mean mg mb h₀) (hk : cs.kind = .function)
    (hdp : dp + 3 < recursionLimit) (m0 : (est, instObj 333 ed) ∈ news) (m1 : (ed, oE w.params k) ∈ news) 
    (hret : ∀ t9 h' tk', Fr h₀ L h' m → News h₀ L h' news → Q (.int 10 t9) { s with heap := h', toks := tk' }) :
    wpAny (model Challenge.rw_xw0347_01.row.prog w) (ktrTop dp un gd cn cs L a ccd cl outer) (call (.ref 323) [.ref est]) Q E s := by
  revert X; k_fill; intro X
  refine wpAny_call ?_
  k_dflt ktr_enter
  k_steps
  all_goals (refine' cb_retI (x := 10) (fun t h' tk' => hret t h' tk') ?e ?F ?N; (case F => k_asm); (case N => k_asm); (case e => rfl))
theorem rowsT4x3 : True := by
  k_with "call ref" => (k_here; (with_reducible show wpAny _ _ (call (Value.ref 323) _) _ _ _); k_dflt ((refine' timeout_ok _ _ _ _ _ _ _ _ _ _ _ _ _ _ _ _ _ _ _ _ _ (by k_asm) (by k_asm) (by k_asm) (by k_asm) (by k_asm) (by first | exact rfl | assumption) (by ktr_room) (by first | with_reducible assumption | k_mem) (by first | with_reducible assumption | k_mem)  ?_; (intro t9 h9 tk9 F9 N9); (try k_sweep); (try dsimp only); (try k_fold))))
  exact True.intro
theorem clamp_wt {tries : Int} (h : tries = 0 ∨ tries = 1 ∨ tries = 2) : clampE (if tries = 0 then 10 else if tries = 1 then 20 else 40) = wt tries := by
  rcases h with h | h | h <;> subst h <;> rfl
theorem clamp_pw {p : Int} (h0 : 0 ≤ p) (h1 : p < 8) : clampE (10 * 2 ^ p.toNat) = pw p := by
  obtain ⟨n, rfl⟩ := Int.eq_ofNat_of_zero_le h0
  exact (by decide : ∀ n : Nat, n < 8 → clampE (10 * 2 ^ ((n : Int)).toNat) = pw (n : Int)) n (Int.ofNat_lt.mp h1)
theorem rowsT4x4 : True := by
  k_with "UnrEnd" => (k_here; k_dflt (refine' unr_end (by k_asm) (by k_asm) (by assumption) ?_))
  exact True.intro
set_option maxRecDepth 100000 in
set_option maxHeartbeats 8000000 in
theorem deadline_ok {w : World} {mean : ExcName → Option Value} {mg mb : Str → Option Value} (dp un : Nat) (gd : Option (List Code)) (cn : Str) (cs : Scope) (a : Addr) (ccd : Value) (cl : List (Str × Addr)) (outer : List Env) (A₀ : Around) (base h₀ : Heap) (L : Addr) (m : Str → Option Value) (s : Shared) (Q E : Value → Shared → Prop)
    (k : Nat → Tok) (clk cd est : Addr) (tries : Int) (ed : Addr) (now : Int) (tn : Tok) (news : List (Addr × Obj))
    (B : Below A₀ base outer h₀) (F : Fr h₀ L s.heap m) (X : (Tr.pre.heap_1_39 w.params).In h₀) (N : News h₀ L s.heap news)
    (T : Top Tr.pre.view_1_40 (looseW Tr.pre.view_1_40 [Str.ofString "Sender", Str.ofString "Tcb"]) mean mg mb h₀) (hk : cs.kind = .function)
    (hdp : dp + 5 < recursionLimit) (m0 : (clk, instObj 277 cd) ∈ news) (m1 : (cd, oC w.params k est tries) ∈ news) (m2 : (est, instObj 333 ed) ∈ news) (m3 : (ed, oE w.params k) ∈ news) (htr : tries = 0 ∨ tries = 1 ∨ tries = 2)
    (hret : ∀ t9 h' tk', Fr h₀ L h' m → News h₀ L h' news → Q (.int (now + wt tries) t9) { s with heap := h', toks := tk' }) :
    wpAny (model Challenge.rw_xw0347_01.row.prog w) (ktrTop dp un gd cn cs L a ccd cl outer) (call (.ref 274) [.ref clk, .int now tn]) Q E s := by
  revert X; k_fill; intro X
  refine wpAny_call ?_
  k_dflt ktr_enter
  rcases htr with h | h | h <;> subst h
  all_goals k_steps
  all_goals (refine' cb_retI (x := now + wt _) (fun t h' tk' => hret t h' tk') ?e ?F ?N; (case F => k_asm); (case N => k_asm); (case e => first | rfl | decide | (simp [wt, clampE]; done)))
set_option maxRecDepth 100000 in
set_option maxHeartbeats 8000000 in
theorem probe_wait_ok {w : World} {mean : ExcName → Option Value} {mg mb : Str → Option Value} (dp un : Nat) (gd : Option (List Code)) (cn : Str) (cs : Scope) (a : Addr) (ccd : Value) (cl : List (Str × Addr)) (outer : List Env) (A₀ : Around) (base h₀ : Heap) (L : Addr) (m : Str → Option Value) (s : Shared) (Q E : Value → Shared → Prop)
    (k : Nat → Tok) (tcb td li lo re rc cg ak whl : Addr) (st : Str) (ts : Tok) (pr : Int) (tp : Tok) (snd : Addr) (clk cd est : Addr) (tries : Int) (ed : Addr) (news : List (Addr × Obj))
    (B : Below A₀ base outer h₀) (F : Fr h₀ L s.heap m) (X : (Tr.pre.heap_1_39 w.params).In h₀) (N : News h₀ L s.heap news)
    (T : Top Tr.pre.view_1_40 (looseW Tr.pre.view_1_40 [Str.ofString "Sender", Str.ofString "Tcb"]) mean mg mb h₀) (hk : cs.kind = .function)
    (hdp : dp + 5 < recursionLimit) (m0 : (tcb, instObj 804 td) ∈ news) (m1 : (td, oT w.params k li lo re snd rc clk cg ak whl st ts pr tp) ∈ news) (m2 : (clk, instObj 277 cd) ∈ news) (m3 : (cd, oC w.params k est tries) ∈ news) (m4 : (est, instObj 333 ed) ∈ news) (m5 : (ed, oE w.params k) ∈ news) (hp0 : 0 ≤ pr) (hp1 : pr < 8)
    (hret : ∀ t9 h' tk', Fr h₀ L h' m → News h₀ L h' news → Q (.int (pw pr) t9) { s with heap := h', toks := tk' }) :
    wpAny (model Challenge.rw_xw0347_01.row.prog w) (ktrTop dp un gd cn cs L a ccd cl outer) (call (.ref 822) [.ref tcb]) Q E s := by
  revert X; k_fill; intro X
  refine wpAny_call ?_
  k_dflt ktr_enter
  k_steps
  all_goals (have hq : ∀ r9 : Int, r9 ≤ pr → r9 ≤ 7 → (r9 = pr ∨ r9 = 7) → clampE (10 * 2 ^ r9.toNat) = pw pr := fun r9 h1 h2 h3 => by (have h4 : r9 = pr := by omega); subst h4; exact clamp_pw hp0 hp1)
  all_goals (refine' cb_retI (x := pw pr) (fun t h' tk' => hret t h' tk') ?e ?F ?N; (case F => k_asm); (case N => k_asm); (case e => exact hq _ (by assumption) (by assumption) (by assumption)))
end
-- T5
section
theorem rowsT5x1 : True := by
  k_with_none
  k_with "data" => (repeat ((fail_if_success (refine Classical.byContradiction ?_)); rotate_left))
  k_with "callWith ref" => (k_here; k_dflt (refine' callWith_K (by with_reducible assumption) (by k_is) ?_; k_whole))
  k_with "callWith ref" => (k_here; (with_reducible show wpAny _ _ (callWith _ _ _ (backTo _ (starEach [] _)) []) _ _ _); (with_reducible rename Fr _ _ _ _ => kF); k_dflt (refine' callWith_K0 (Frag.In.keeps (by with_reducible assumption) (Fr.keep kF)) (by k_is) ?_; k_whole))
  k_with "call builtin:min" => (k_here; (with_reducible show wpAny _ _ (call (Value.builtin _) [Value.int _ _, Value.int _ _]) _ _ _); (with_unfolding_all refine' min2_K (by with_unfolding_all rfl) (by k_asm) (by k_asm) ?_; k_whole); (intro h' tk' r9 tr9 hr1 hr2 hr3 F' N'); (try k_sweep))
  k_with "call builtin:max" => (k_here; (with_reducible show wpAny _ _ (call (Value.builtin _) [Value.int _ _, Value.int _ _]) _ _ _); (with_unfolding_all refine' max2_K (by with_unfolding_all rfl) (by k_asm) (by k_asm) ?_; k_whole); (intro h' tk' r9 tr9 hr1 hr2 hr3 F' N'); (try k_sweep))
  k_with "call builtin:min" => (k_here; (with_reducible show wpAny _ _ (call (Value.builtin _) [Value.int _ _, Value.int _ _, Value.int _ _]) _ _ _); (with_unfolding_all refine' min3_K (by with_unfolding_all rfl) (by k_asm) (by k_asm) ?_; k_whole); (intro h' tk' r9 tr9 hr1 hr2 hr3 hr4 F' N'); (try k_sweep))
  k_with "And" => ((with_reducible show Flow.next = Flow.next ∧ _); refine ⟨rfl, ?_⟩)
  exact True.intro
theorem Spl.sub {prv news pub : List (Addr × Obj)} (h : Spl prv news pub) : ∀ p ∈ prv, p ∈ news := fun p hp => by rw [h.eq]; exact List.mem_append_right _ hp
theorem mem_ltr {p : Addr × Obj} {l : List (Addr × Obj)} (h : p ∈ l) : List.Mem p l := h
theorem own_tl {prv : List (Addr × Obj)} {a : Addr} {l : List Addr} (h : OwnOff prv (a :: l)) : OwnOff prv l := fun p hp b hb => h p hp b (List.mem_cons_of_mem _ hb)
theorem own_nil {prv : List (Addr × Obj)} : OwnOff prv [] := fun _ _ _ h => nomatch h
theorem own_cons {prv : List (Addr × Obj)} {a : Addr} {l : List Addr} (h1 : ∀ p ∈ prv, p.1 ≠ a) (h2 : OwnOff prv l) : OwnOff prv (a :: l) := fun p hp b hb => by
  rcases List.mem_cons.mp hb with rfl | hb
  · exact h1 p hp
  · exact h2 p hp b hb
def StopAt (P : Prop) : Prop := P
def Hold (P : Prop) : Prop := P
theorem execs_hold {M : Model} {A : Around} {E : Value → Shared → Prop} {Q : Flow → Shared → Prop} {s : Shared} {env : Env} {s1 : Stmt} {rest : List Stmt}
    (h : wpAny M A (exec s1 env) (fun f s' => match f with | .next => Hold (wpAny M A (execs rest env) Q E s') | f => Q f s') E s) : wpAny M A (execs (s1 :: rest) env) Q E s := wpAny_execs_cons h
theorem execs_cut {M : Model} {A : Around} {E : Value → Shared → Prop} {Q : Flow → Shared → Prop} {s : Shared} {env : Env} {s1 : Stmt} {rest : List Stmt} {g h : Heap} {L : Addr} {m : Str → Option Value}
    (_F : Fr g L h m) (Mid : (Str → Option Value) → Shared → Prop) (hc : wpAny M A (exec s1 env) (fun f s' => f = .next ∧ Mid m s') E s) (hk : ∀ s', Mid m s' → wpAny M A (execs rest env) Q E s') : wpAny M A (execs (s1 :: rest) env) Q E s :=
  wpAny_execs_cons (wpAny_mono hc (fun f s' hh => by
    obtain ⟨rfl, hh⟩ := hh
    exact hk s' hh) fun _ _ h => h)
theorem execs_cutP {M : Model} {A : Around} {E : Value → Shared → Prop} {Q : Flow → Shared → Prop} {s : Shared} {env : Env} {s1 : Stmt} {rest : List Stmt} {g h : Heap} {L : Addr} {m : Str → Option Value}
    (F : Fr g L h m) (Mid : (Str → Option Value) → Shared → Prop) (hc : ∀ P : Shared → Prop, (∀ s', Mid m s' → P s') → wpAny M A (exec s1 env) (fun f s' => f = .next ∧ StopAt (P s')) E s) (hk : ∀ s', Mid m s' → wpAny M A (execs rest env) Q E s') : wpAny M A (execs (s1 :: rest) env) Q E s :=
  execs_cut F Mid (hc _ (fun _ x => x)) hk
theorem execs_holdP {M : Model} {A : Around} {E : Value → Shared → Prop} {Q : Flow → Shared → Prop} {s : Shared} {env : Env} {s1 : Stmt} {rest : List Stmt}
    (h : ∀ P : Shared → Prop, (∀ s', wpAny M A (execs rest env) Q E s' → P s') → wpAny M A (exec s1 env) (fun f s' => match f with | .next => Hold (P s') | f => Q f s') E s) : wpAny M A (execs (s1 :: rest) env) Q E s := execs_hold (h _ (fun _ x => x))
noncomputable def kA (fl0 : Bool) (tm : Int → Option Int) (a1 : Int) : Int → Option Int := if fl0 then tmDel tm 1 else match tm 1 with | none => tmPut tm 1 a1 | some _ => tm
noncomputable def kB (pb : Bool) (tm : Int → Option Int) (a2 : Int) : Int → Option Int := if pb then (match tm 2 with | none => tmPut tm 2 a2 | some _ => tm) else tmDel tm 2
noncomputable def kT (ac fl0 pb : Bool) (tm : Int → Option Int) (a1 a2 : Int) : Int → Option Int := if ac then kB pb (kA fl0 tm a1) a2 else tm
noncomputable def acts (st : Str) : Bool := !([Str.ofString "closed", Str.ofString "listen", Str.ofString "time wait"].any fun x => x == st)
noncomputable def sends (st : Str) : Bool := [Str.ofString "established", Str.ofString "fin wait 1", Str.ofString "close wait", Str.ofString "closing", Str.ofString "last ack"].any fun x => x == st
noncomputable def kP (ac pb : Bool) (pr : Int) : Int := if ac then (if pb then pr else 0) else pr
theorem kA_del {fl : Int} {tm : Int → Option Int} {a : Int} (h : fl = 0) : kA (decide (fl = 0)) tm a = tmDel tm 1 := by unfold kA; rw [decide_eq_true h]; rfl
theorem kA_put {fl : Int} {tm : Int → Option Int} {a : Int} (h : fl ≠ 0) (h1 : tm 1 = none) : kA (decide (fl = 0)) tm a = tmPut tm 1 a := by unfold kA; rw [decide_eq_false h, h1]; rfl
theorem kA_old {fl : Int} {tm : Int → Option Int} {a t : Int} (h : fl ≠ 0) (h1 : tm 1 = some t) : kA (decide (fl = 0)) tm a = tm := by unfold kA; rw [decide_eq_false h, h1]; rfl
theorem kB_del {b : Bool} {tm : Int → Option Int} {a : Int} (h : b = false) : kB b tm a = tmDel tm 2 := by unfold kB; rw [h]; rfl
theorem kB_put {b : Bool} {tm : Int → Option Int} {a : Int} (h : b = true) (h1 : tm 2 = none) : kB b tm a = tmPut tm 2 a := by unfold kB; rw [h, h1]; rfl
theorem kB_old {b : Bool} {tm : Int → Option Int} {a t : Int} (h : b = true) (h1 : tm 2 = some t) : kB b tm a = tm := by unfold kB; rw [h, h1]; rfl
theorem kT_act {ac fl0 pb : Bool} {tm : Int → Option Int} {a1 a2 : Int} (h : ac = true) : kT ac fl0 pb tm a1 a2 = kB pb (kA fl0 tm a1) a2 := by unfold kT; rw [h]; rfl
theorem kT_not {ac fl0 pb : Bool} {tm : Int → Option Int} {a1 a2 : Int} (h : ac = false) : kT ac fl0 pb tm a1 a2 = tm := by unfold kT; rw [h]; rfl
theorem kP_act {ac pb : Bool} {pr : Int} (h : ac = true) (h2 : pb = true) : kP ac pb pr = pr := by unfold kP; rw [h, h2]; rfl
theorem kP_zero {ac pb : Bool} {pr : Int} (h : ac = true) (h2 : pb = false) : kP ac pb pr = 0 := by unfold kP; rw [h, h2]; rfl
theorem kP_not {ac pb : Bool} {pr : Int} (h : ac = false) : kP ac pb pr = pr := by unfold kP; rw [h]; rfl
theorem ac_t {st : Str} {l : List Str} (h : (l.any fun x => x == st) = false) : (!(l.any fun x => x == st)) = true := by rw [h]; rfl
theorem ac_f {st : Str} {l : List Str} (h : (l.any fun x => x == st) = true) : (!(l.any fun x => x == st)) = false := by rw [h]; rfl
theorem pb_n {a b : Bool} (h : a = false) : (a && b) = false := by rw [h]; rfl
theorem pb_0 {a b : Bool} (h : b = false) : (a && b) = false := by rw [h, Bool.and_false]
theorem pb_1 {a b : Bool} (h : a = true) (h2 : b = true) : (a && b) = true := by rw [h, h2]; rfl
@[reducible] noncomputable def kpL (P : Params) (k : Nat → Tok) (snd sd pe qu : Addr) (ui nx gr : Int) (syn fin : Bool) (pd : Addr) (win mo : Int) (qd : Addr) (bs : Array UInt8) (clk cd est : Addr) (tries : Int) (ed : Addr) : List (Addr × Obj) := [(snd, instObj 666 sd), (sd, oS P k pe qu ui nx gr syn fin), (pe, instObj 475 pd), (pd, oP P k win mo), (qu, instObj 433 qd), (qd, oQ P k bs), (clk, instObj 277 cd), (cd, oC P k est tries), (est, instObj 333 ed), (ed, oE P k)]
section
variable {w : World} {whl wd sl lt en : Addr} {tm : Int → Option Int} {bd : Nat} {prv : List (Addr × Obj)} {k : Nat → Tok} {snd sd pe qu : Addr} {ui nx gr : Int} {syn fin : Bool} {pd : Addr} {win mo : Int} {qd : Addr} {bs : Array UInt8} {clk cd est : Addr} {tries : Int} {ed : Addr}
theorem kp0 (W : WI w whl wd sl lt en tm bd (kpL w.params k snd sd pe qu ui nx gr syn fin pd win mo qd bs clk cd est tries ed) prv) : (snd, instObj 666 sd) ∈ prv := (W.kps _ (List.Mem.head _)).1
theorem kp1 (W : WI w whl wd sl lt en tm bd (kpL w.params k snd sd pe qu ui nx gr syn fin pd win mo qd bs clk cd est tries ed) prv) : (sd, oS w.params k pe qu ui nx gr syn fin) ∈ prv := (W.kps _ (.tail _ (List.Mem.head _))).1
theorem kp2 (W : WI w whl wd sl lt en tm bd (kpL w.params k snd sd pe qu ui nx gr syn fin pd win mo qd bs clk cd est tries ed) prv) : (pe, instObj 475 pd) ∈ prv := (W.kps _ (.tail _ (.tail _ (List.Mem.head _)))).1
theorem kp3 (W : WI w whl wd sl lt en tm bd (kpL w.params k snd sd pe qu ui nx gr syn fin pd win mo qd bs clk cd est tries ed) prv) : (pd, oP w.params k win mo) ∈ prv := (W.kps _ (.tail _ (.tail _ (.tail _ (List.Mem.head _))))).1
theorem kp4 (W : WI w whl wd sl lt en tm bd (kpL w.params k snd sd pe qu ui nx gr syn fin pd win mo qd bs clk cd est tries ed) prv) : (qu, instObj 433 qd) ∈ prv := (W.kps _ (.tail _ (.tail _ (.tail _ (.tail _ (List.Mem.head _)))))).1
theorem kp5 (W : WI w whl wd sl lt en tm bd (kpL w.params k snd sd pe qu ui nx gr syn fin pd win mo qd bs clk cd est tries ed) prv) : (qd, oQ w.params k bs) ∈ prv := (W.kps _ (.tail _ (.tail _ (.tail _ (.tail _ (.tail _ (List.Mem.head _))))))).1
theorem kp6 (W : WI w whl wd sl lt en tm bd (kpL w.params k snd sd pe qu ui nx gr syn fin pd win mo qd bs clk cd est tries ed) prv) : (clk, instObj 277 cd) ∈ prv := (W.kps _ (.tail _ (.tail _ (.tail _ (.tail _ (.tail _ (.tail _ (List.Mem.head _)))))))).1
theorem kp7 (W : WI w whl wd sl lt en tm bd (kpL w.params k snd sd pe qu ui nx gr syn fin pd win mo qd bs clk cd est tries ed) prv) : (cd, oC w.params k est tries) ∈ prv := (W.kps _ (.tail _ (.tail _ (.tail _ (.tail _ (.tail _ (.tail _ (.tail _ (List.Mem.head _))))))))).1
theorem kp8 (W : WI w whl wd sl lt en tm bd (kpL w.params k snd sd pe qu ui nx gr syn fin pd win mo qd bs clk cd est tries ed) prv) : (est, instObj 333 ed) ∈ prv := (W.kps _ (.tail _ (.tail _ (.tail _ (.tail _ (.tail _ (.tail _ (.tail _ (.tail _ (List.Mem.head _)))))))))).1
theorem kp9 (W : WI w whl wd sl lt en tm bd (kpL w.params k snd sd pe qu ui nx gr syn fin pd win mo qd bs clk cd est tries ed) prv) : (ed, oE w.params k) ∈ prv := (W.kps _ (.tail _ (.tail _ (.tail _ (.tail _ (.tail _ (.tail _ (.tail _ (.tail _ (.tail _ (List.Mem.head _))))))))))).1
theorem kpS0 {news pub : List (Addr × Obj)} (sp : Spl prv news pub) (W : WI w whl wd sl lt en tm bd (kpL w.params k snd sd pe qu ui nx gr syn fin pd win mo qd bs clk cd est tries ed) prv) : (snd, instObj 666 sd) ∈ news := sp.sub _ (kp0 W)
theorem kpS1 {news pub : List (Addr × Obj)} (sp : Spl prv news pub) (W : WI w whl wd sl lt en tm bd (kpL w.params k snd sd pe qu ui nx gr syn fin pd win mo qd bs clk cd est tries ed) prv) : (sd, oS w.params k pe qu ui nx gr syn fin) ∈ news := sp.sub _ (kp1 W)
theorem kpS2 {news pub : List (Addr × Obj)} (sp : Spl prv news pub) (W : WI w whl wd sl lt en tm bd (kpL w.params k snd sd pe qu ui nx gr syn fin pd win mo qd bs clk cd est tries ed) prv) : (pe, instObj 475 pd) ∈ news := sp.sub _ (kp2 W)
theorem kpS3 {news pub : List (Addr × Obj)} (sp : Spl prv news pub) (W : WI w whl wd sl lt en tm bd (kpL w.params k snd sd pe qu ui nx gr syn fin pd win mo qd bs clk cd est tries ed) prv) : (pd, oP w.params k win mo) ∈ news := sp.sub _ (kp3 W)
theorem kpS4 {news pub : List (Addr × Obj)} (sp : Spl prv news pub) (W : WI w whl wd sl lt en tm bd (kpL w.params k snd sd pe qu ui nx gr syn fin pd win mo qd bs clk cd est tries ed) prv) : (qu, instObj 433 qd) ∈ news := sp.sub _ (kp4 W)
theorem kpS5 {news pub : List (Addr × Obj)} (sp : Spl prv news pub) (W : WI w whl wd sl lt en tm bd (kpL w.params k snd sd pe qu ui nx gr syn fin pd win mo qd bs clk cd est tries ed) prv) : (qd, oQ w.params k bs) ∈ news := sp.sub _ (kp5 W)
theorem kpS6 {news pub : List (Addr × Obj)} (sp : Spl prv news pub) (W : WI w whl wd sl lt en tm bd (kpL w.params k snd sd pe qu ui nx gr syn fin pd win mo qd bs clk cd est tries ed) prv) : (clk, instObj 277 cd) ∈ news := sp.sub _ (kp6 W)
theorem kpS7 {news pub : List (Addr × Obj)} (sp : Spl prv news pub) (W : WI w whl wd sl lt en tm bd (kpL w.params k snd sd pe qu ui nx gr syn fin pd win mo qd bs clk cd est tries ed) prv) : (cd, oC w.params k est tries) ∈ news := sp.sub _ (kp7 W)
theorem kpS8 {news pub : List (Addr × Obj)} (sp : Spl prv news pub) (W : WI w whl wd sl lt en tm bd (kpL w.params k snd sd pe qu ui nx gr syn fin pd win mo qd bs clk cd est tries ed) prv) : (est, instObj 333 ed) ∈ news := sp.sub _ (kp8 W)
theorem kpS9 {news pub : List (Addr × Obj)} (sp : Spl prv news pub) (W : WI w whl wd sl lt en tm bd (kpL w.params k snd sd pe qu ui nx gr syn fin pd win mo qd bs clk cd est tries ed) prv) : (ed, oE w.params k) ∈ news := sp.sub _ (kp9 W)
end
local macro_rules | `(tactic| k_mem) => `(tactic| (refine mem_ltr ?_; with_reducible assumption))
local macro_rules | `(tactic| k_mem) => `(tactic| first | exact kp0 (by assumption) | exact kp1 (by assumption) | exact kp6 (by assumption) | exact kp7 (by assumption))
theorem rowsT5x2 : True := by
  k_with "call ref" => (k_here; (with_reducible show wpAny _ _ (call (Value.ref 711) _) _ _ _); k_dflt ((refine' cancelW _ _ _ _ _ _ _ _ _ _ _ _ _ _ _ _ _ _ _ _ _ _ _ _ _ _ _ _ _ _ _ _ _ (by k_asm) (by k_asm) (by k_asm) (by k_asm) (by k_asm) (by first | exact rfl | assumption) (by ktr_room) ?_ ?_ ?_ ?_ ?_ (by assumption) ?_ ?_; k_extra "data"; (focus (first | exact Spl.nil | exact (Spl.cons Spl.nil) | exact (Spl.cons (Spl.cons Spl.nil)) | exact (Spl.cons (Spl.cons (Spl.cons Spl.nil))) | exact (Spl.cons (Spl.cons (Spl.cons (Spl.cons Spl.nil)))) | exact (Spl.cons (Spl.cons (Spl.cons (Spl.cons (Spl.cons Spl.nil))))) | exact (Spl.cons (Spl.cons (Spl.cons (Spl.cons (Spl.cons (Spl.cons Spl.nil)))))) | exact (Spl.cons (Spl.cons (Spl.cons (Spl.cons (Spl.cons (Spl.cons (Spl.cons Spl.nil))))))) | exact (Spl.cons (Spl.cons (Spl.cons (Spl.cons (Spl.cons (Spl.cons (Spl.cons (Spl.cons Spl.nil)))))))) | exact (Spl.cons (Spl.cons (Spl.cons (Spl.cons (Spl.cons (Spl.cons (Spl.cons (Spl.cons (Spl.cons Spl.nil))))))))) | exact (Spl.cons (Spl.cons (Spl.cons (Spl.cons (Spl.cons (Spl.cons (Spl.cons (Spl.cons (Spl.cons (Spl.cons Spl.nil)))))))))) | exact (Spl.cons (Spl.cons (Spl.cons (Spl.cons (Spl.cons (Spl.cons (Spl.cons (Spl.cons (Spl.cons (Spl.cons (Spl.cons Spl.nil))))))))))) | exact (Spl.cons (Spl.cons (Spl.cons (Spl.cons (Spl.cons (Spl.cons (Spl.cons (Spl.cons (Spl.cons (Spl.cons (Spl.cons (Spl.cons Spl.nil)))))))))))) | exact (Spl.cons (Spl.cons (Spl.cons (Spl.cons (Spl.cons (Spl.cons (Spl.cons (Spl.cons (Spl.cons (Spl.cons (Spl.cons (Spl.cons (Spl.cons Spl.nil))))))))))))) | exact (Spl.cons (Spl.cons (Spl.cons (Spl.cons (Spl.cons (Spl.cons (Spl.cons (Spl.cons (Spl.cons (Spl.cons (Spl.cons (Spl.cons (Spl.cons (Spl.cons Spl.nil)))))))))))))) | exact (Spl.cons (Spl.cons (Spl.cons (Spl.cons (Spl.cons (Spl.cons (Spl.cons (Spl.cons (Spl.cons (Spl.cons (Spl.cons (Spl.cons (Spl.cons (Spl.cons (Spl.cons Spl.nil))))))))))))))) | exact (Spl.cons (Spl.cons (Spl.cons (Spl.cons (Spl.cons (Spl.cons (Spl.cons (Spl.cons (Spl.cons (Spl.cons (Spl.cons (Spl.cons (Spl.cons (Spl.cons (Spl.cons (Spl.cons Spl.nil)))))))))))))))) | exact (Spl.cons (Spl.cons (Spl.cons (Spl.cons (Spl.cons (Spl.cons (Spl.cons (Spl.cons (Spl.cons (Spl.cons (Spl.cons (Spl.cons (Spl.cons (Spl.cons (Spl.cons (Spl.cons (Spl.cons Spl.nil))))))))))))))))) | exact (Spl.cons (Spl.cons (Spl.cons (Spl.cons (Spl.cons (Spl.cons (Spl.cons (Spl.cons (Spl.cons (Spl.cons (Spl.cons (Spl.cons (Spl.cons (Spl.cons (Spl.cons (Spl.cons (Spl.cons (Spl.cons Spl.nil)))))))))))))))))) | exact (Spl.cons (Spl.cons (Spl.cons (Spl.cons (Spl.cons (Spl.cons (Spl.cons (Spl.cons (Spl.cons (Spl.cons (Spl.cons (Spl.cons (Spl.cons (Spl.cons (Spl.cons (Spl.cons (Spl.cons (Spl.cons (Spl.cons Spl.nil))))))))))))))))))) | exact (Spl.cons (Spl.cons (Spl.cons (Spl.cons (Spl.cons (Spl.cons (Spl.cons (Spl.cons (Spl.cons (Spl.cons (Spl.cons (Spl.cons (Spl.cons (Spl.cons (Spl.cons (Spl.cons (Spl.cons (Spl.cons (Spl.cons (Spl.cons Spl.nil)))))))))))))))))))) | exact (Spl.cons (Spl.cons (Spl.cons (Spl.cons (Spl.cons (Spl.cons (Spl.cons (Spl.cons (Spl.cons (Spl.cons (Spl.cons (Spl.cons (Spl.cons (Spl.cons (Spl.cons (Spl.cons (Spl.cons (Spl.cons (Spl.cons (Spl.cons (Spl.cons Spl.nil))))))))))))))))))))))); (focus ((dsimp only [List.map]; first | assumption | ((repeat' (first | exact own_nil | refine' own_cons ?_ ?_)) <;> k_all)))); assumption; assumption; assumption; omega; (intro prv9 h9 tk9 m09 m19 W9 O9 F9 N9); (try dsimp only [List.map] at O9); (try simp only [List.cons_append, List.nil_append] at N9); (try k_sweep); (try dsimp only); (try k_fold))))
  k_with "call ref" => (k_here; (with_reducible show wpAny _ _ (call (Value.ref 697) _) _ _ _); k_dflt ((refine' putW _ _ _ _ _ _ _ _ _ _ _ _ _ _ _ _ _ _ _ _ _ _ _ _ _ _ _ _ _ _ _ _ _ _ _ (by k_asm) (by k_asm) (by k_asm) (by k_asm) (by k_asm) (by first | exact rfl | assumption) (by ktr_room) ?_ ?_ ?_ ?_ ?_ (by assumption) ?_ ?_ ?_; k_extra "data"; (focus (first | exact Spl.nil | exact (Spl.cons Spl.nil) | exact (Spl.cons (Spl.cons Spl.nil)) | exact (Spl.cons (Spl.cons (Spl.cons Spl.nil))) | exact (Spl.cons (Spl.cons (Spl.cons (Spl.cons Spl.nil)))) | exact (Spl.cons (Spl.cons (Spl.cons (Spl.cons (Spl.cons Spl.nil))))) | exact (Spl.cons (Spl.cons (Spl.cons (Spl.cons (Spl.cons (Spl.cons Spl.nil)))))) | exact (Spl.cons (Spl.cons (Spl.cons (Spl.cons (Spl.cons (Spl.cons (Spl.cons Spl.nil))))))) | exact (Spl.cons (Spl.cons (Spl.cons (Spl.cons (Spl.cons (Spl.cons (Spl.cons (Spl.cons Spl.nil)))))))) | exact (Spl.cons (Spl.cons (Spl.cons (Spl.cons (Spl.cons (Spl.cons (Spl.cons (Spl.cons (Spl.cons Spl.nil))))))))) | exact (Spl.cons (Spl.cons (Spl.cons (Spl.cons (Spl.cons (Spl.cons (Spl.cons (Spl.cons (Spl.cons (Spl.cons Spl.nil)))))))))) | exact (Spl.cons (Spl.cons (Spl.cons (Spl.cons (Spl.cons (Spl.cons (Spl.cons (Spl.cons (Spl.cons (Spl.cons (Spl.cons Spl.nil))))))))))) | exact (Spl.cons (Spl.cons (Spl.cons (Spl.cons (Spl.cons (Spl.cons (Spl.cons (Spl.cons (Spl.cons (Spl.cons (Spl.cons (Spl.cons Spl.nil)))))))))))) | exact (Spl.cons (Spl.cons (Spl.cons (Spl.cons (Spl.cons (Spl.cons (Spl.cons (Spl.cons (Spl.cons (Spl.cons (Spl.cons (Spl.cons (Spl.cons Spl.nil))))))))))))) | exact (Spl.cons (Spl.cons (Spl.cons (Spl.cons (Spl.cons (Spl.cons (Spl.cons (Spl.cons (Spl.cons (Spl.cons (Spl.cons (Spl.cons (Spl.cons (Spl.cons Spl.nil)))))))))))))) | exact (Spl.cons (Spl.cons (Spl.cons (Spl.cons (Spl.cons (Spl.cons (Spl.cons (Spl.cons (Spl.cons (Spl.cons (Spl.cons (Spl.cons (Spl.cons (Spl.cons (Spl.cons Spl.nil))))))))))))))) | exact (Spl.cons (Spl.cons (Spl.cons (Spl.cons (Spl.cons (Spl.cons (Spl.cons (Spl.cons (Spl.cons (Spl.cons (Spl.cons (Spl.cons (Spl.cons (Spl.cons (Spl.cons (Spl.cons Spl.nil)))))))))))))))) | exact (Spl.cons (Spl.cons (Spl.cons (Spl.cons (Spl.cons (Spl.cons (Spl.cons (Spl.cons (Spl.cons (Spl.cons (Spl.cons (Spl.cons (Spl.cons (Spl.cons (Spl.cons (Spl.cons (Spl.cons Spl.nil))))))))))))))))) | exact (Spl.cons (Spl.cons (Spl.cons (Spl.cons (Spl.cons (Spl.cons (Spl.cons (Spl.cons (Spl.cons (Spl.cons (Spl.cons (Spl.cons (Spl.cons (Spl.cons (Spl.cons (Spl.cons (Spl.cons (Spl.cons Spl.nil)))))))))))))))))) | exact (Spl.cons (Spl.cons (Spl.cons (Spl.cons (Spl.cons (Spl.cons (Spl.cons (Spl.cons (Spl.cons (Spl.cons (Spl.cons (Spl.cons (Spl.cons (Spl.cons (Spl.cons (Spl.cons (Spl.cons (Spl.cons (Spl.cons Spl.nil))))))))))))))))))) | exact (Spl.cons (Spl.cons (Spl.cons (Spl.cons (Spl.cons (Spl.cons (Spl.cons (Spl.cons (Spl.cons (Spl.cons (Spl.cons (Spl.cons (Spl.cons (Spl.cons (Spl.cons (Spl.cons (Spl.cons (Spl.cons (Spl.cons (Spl.cons Spl.nil)))))))))))))))))))) | exact (Spl.cons (Spl.cons (Spl.cons (Spl.cons (Spl.cons (Spl.cons (Spl.cons (Spl.cons (Spl.cons (Spl.cons (Spl.cons (Spl.cons (Spl.cons (Spl.cons (Spl.cons (Spl.cons (Spl.cons (Spl.cons (Spl.cons (Spl.cons (Spl.cons Spl.nil))))))))))))))))))))))); (focus ((dsimp only [List.map]; first | assumption | ((repeat' (first | exact own_nil | refine' own_cons ?_ ?_)) <;> k_all)))); assumption; assumption; assumption; omega; (focus (first | assumption | (simp [tmDel, tmPut]; done) | (simp [tmDel, tmPut]; assumption))); (intro prv9 h9 tk9 tg9 m09 m19 W9 O9 F9 N9); (try dsimp only [List.map] at O9); (try simp only [List.cons_append, List.nil_append] at N9); (try k_sweep); (try dsimp only); (try k_fold))))
  k_with "call ref" => (k_here; (with_reducible show wpAny _ _ (call (Value.ref 718) _) _ _ _); k_dflt ((refine' time_w _ _ _ _ _ _ _ _ _ _ _ _ _ _ _ _ _ _ _ _ _ _ _ _ _ _ _ _ _ _ _ _ (by k_asm) (by k_asm) (by k_asm) (by k_asm) (by k_asm) (by first | exact rfl | assumption) (by ktr_room) (Spl.sub ?_) ?_ ?_ ?_ (by assumption) ?_ ?_; k_extra "data"; (focus (first | exact Spl.nil | exact (Spl.cons Spl.nil) | exact (Spl.cons (Spl.cons Spl.nil)) | exact (Spl.cons (Spl.cons (Spl.cons Spl.nil))) | exact (Spl.cons (Spl.cons (Spl.cons (Spl.cons Spl.nil)))) | exact (Spl.cons (Spl.cons (Spl.cons (Spl.cons (Spl.cons Spl.nil))))) | exact (Spl.cons (Spl.cons (Spl.cons (Spl.cons (Spl.cons (Spl.cons Spl.nil)))))) | exact (Spl.cons (Spl.cons (Spl.cons (Spl.cons (Spl.cons (Spl.cons (Spl.cons Spl.nil))))))) | exact (Spl.cons (Spl.cons (Spl.cons (Spl.cons (Spl.cons (Spl.cons (Spl.cons (Spl.cons Spl.nil)))))))) | exact (Spl.cons (Spl.cons (Spl.cons (Spl.cons (Spl.cons (Spl.cons (Spl.cons (Spl.cons (Spl.cons Spl.nil))))))))) | exact (Spl.cons (Spl.cons (Spl.cons (Spl.cons (Spl.cons (Spl.cons (Spl.cons (Spl.cons (Spl.cons (Spl.cons Spl.nil)))))))))) | exact (Spl.cons (Spl.cons (Spl.cons (Spl.cons (Spl.cons (Spl.cons (Spl.cons (Spl.cons (Spl.cons (Spl.cons (Spl.cons Spl.nil))))))))))) | exact (Spl.cons (Spl.cons (Spl.cons (Spl.cons (Spl.cons (Spl.cons (Spl.cons (Spl.cons (Spl.cons (Spl.cons (Spl.cons (Spl.cons Spl.nil)))))))))))) | exact (Spl.cons (Spl.cons (Spl.cons (Spl.cons (Spl.cons (Spl.cons (Spl.cons (Spl.cons (Spl.cons (Spl.cons (Spl.cons (Spl.cons (Spl.cons Spl.nil))))))))))))) | exact (Spl.cons (Spl.cons (Spl.cons (Spl.cons (Spl.cons (Spl.cons (Spl.cons (Spl.cons (Spl.cons (Spl.cons (Spl.cons (Spl.cons (Spl.cons (Spl.cons Spl.nil)))))))))))))) | exact (Spl.cons (Spl.cons (Spl.cons (Spl.cons (Spl.cons (Spl.cons (Spl.cons (Spl.cons (Spl.cons (Spl.cons (Spl.cons (Spl.cons (Spl.cons (Spl.cons (Spl.cons Spl.nil))))))))))))))) | exact (Spl.cons (Spl.cons (Spl.cons (Spl.cons (Spl.cons (Spl.cons (Spl.cons (Spl.cons (Spl.cons (Spl.cons (Spl.cons (Spl.cons (Spl.cons (Spl.cons (Spl.cons (Spl.cons Spl.nil)))))))))))))))) | exact (Spl.cons (Spl.cons (Spl.cons (Spl.cons (Spl.cons (Spl.cons (Spl.cons (Spl.cons (Spl.cons (Spl.cons (Spl.cons (Spl.cons (Spl.cons (Spl.cons (Spl.cons (Spl.cons (Spl.cons Spl.nil))))))))))))))))) | exact (Spl.cons (Spl.cons (Spl.cons (Spl.cons (Spl.cons (Spl.cons (Spl.cons (Spl.cons (Spl.cons (Spl.cons (Spl.cons (Spl.cons (Spl.cons (Spl.cons (Spl.cons (Spl.cons (Spl.cons (Spl.cons Spl.nil)))))))))))))))))) | exact (Spl.cons (Spl.cons (Spl.cons (Spl.cons (Spl.cons (Spl.cons (Spl.cons (Spl.cons (Spl.cons (Spl.cons (Spl.cons (Spl.cons (Spl.cons (Spl.cons (Spl.cons (Spl.cons (Spl.cons (Spl.cons (Spl.cons Spl.nil))))))))))))))))))) | exact (Spl.cons (Spl.cons (Spl.cons (Spl.cons (Spl.cons (Spl.cons (Spl.cons (Spl.cons (Spl.cons (Spl.cons (Spl.cons (Spl.cons (Spl.cons (Spl.cons (Spl.cons (Spl.cons (Spl.cons (Spl.cons (Spl.cons (Spl.cons Spl.nil)))))))))))))))))))) | exact (Spl.cons (Spl.cons (Spl.cons (Spl.cons (Spl.cons (Spl.cons (Spl.cons (Spl.cons (Spl.cons (Spl.cons (Spl.cons (Spl.cons (Spl.cons (Spl.cons (Spl.cons (Spl.cons (Spl.cons (Spl.cons (Spl.cons (Spl.cons (Spl.cons Spl.nil))))))))))))))))))))))); assumption; assumption; assumption; rotate_left; (intro t9 t19 h9 tk9 hq9 F9 N9; (try k_sweep); (try dsimp only); (try k_fold)); rotate_left; (intro h9 tk9 hq9 F9 N9; (try k_sweep); (try dsimp only); (try k_fold)))))
  k_with "call ref" => (k_here; (with_reducible show wpAny _ _ (call (Value.ref 529) _) _ _ _); k_dflt ((refine' flight_ok _ _ _ _ _ _ _ _ _ _ _ _ _ _ _ _ _ _ _ _ _ _ _ _ _ _ _ _ _ _ _ _ _ _ _ _ _ _ _ _ _ _ _ _ _ (by k_asm) (by k_asm) (by k_asm) (by k_asm) (by k_asm) (by first | exact rfl | assumption) (by ktr_room) (by (refine' kpS0 ?_ (by assumption); k_extra "data"; (focus (first | exact (Spl.cons Spl.nil) | exact (Spl.cons (Spl.cons Spl.nil)) | exact (Spl.cons (Spl.cons (Spl.cons Spl.nil))) | exact (Spl.cons (Spl.cons (Spl.cons (Spl.cons Spl.nil)))) | exact (Spl.cons (Spl.cons (Spl.cons (Spl.cons (Spl.cons Spl.nil))))) | exact (Spl.cons (Spl.cons (Spl.cons (Spl.cons (Spl.cons (Spl.cons Spl.nil)))))) | exact (Spl.cons (Spl.cons (Spl.cons (Spl.cons (Spl.cons (Spl.cons (Spl.cons Spl.nil))))))) | exact (Spl.cons (Spl.cons (Spl.cons (Spl.cons (Spl.cons (Spl.cons (Spl.cons (Spl.cons Spl.nil)))))))) | exact (Spl.cons (Spl.cons (Spl.cons (Spl.cons (Spl.cons (Spl.cons (Spl.cons (Spl.cons (Spl.cons Spl.nil))))))))) | exact (Spl.cons (Spl.cons (Spl.cons (Spl.cons (Spl.cons (Spl.cons (Spl.cons (Spl.cons (Spl.cons (Spl.cons Spl.nil)))))))))) | exact (Spl.cons (Spl.cons (Spl.cons (Spl.cons (Spl.cons (Spl.cons (Spl.cons (Spl.cons (Spl.cons (Spl.cons (Spl.cons Spl.nil))))))))))) | exact (Spl.cons (Spl.cons (Spl.cons (Spl.cons (Spl.cons (Spl.cons (Spl.cons (Spl.cons (Spl.cons (Spl.cons (Spl.cons (Spl.cons Spl.nil)))))))))))) | exact (Spl.cons (Spl.cons (Spl.cons (Spl.cons (Spl.cons (Spl.cons (Spl.cons (Spl.cons (Spl.cons (Spl.cons (Spl.cons (Spl.cons (Spl.cons Spl.nil))))))))))))) | exact (Spl.cons (Spl.cons (Spl.cons (Spl.cons (Spl.cons (Spl.cons (Spl.cons (Spl.cons (Spl.cons (Spl.cons (Spl.cons (Spl.cons (Spl.cons (Spl.cons Spl.nil)))))))))))))) | exact (Spl.cons (Spl.cons (Spl.cons (Spl.cons (Spl.cons (Spl.cons (Spl.cons (Spl.cons (Spl.cons (Spl.cons (Spl.cons (Spl.cons (Spl.cons (Spl.cons (Spl.cons Spl.nil))))))))))))))) | exact (Spl.cons (Spl.cons (Spl.cons (Spl.cons (Spl.cons (Spl.cons (Spl.cons (Spl.cons (Spl.cons (Spl.cons (Spl.cons (Spl.cons (Spl.cons (Spl.cons (Spl.cons (Spl.cons Spl.nil)))))))))))))))) | exact (Spl.cons (Spl.cons (Spl.cons (Spl.cons (Spl.cons (Spl.cons (Spl.cons (Spl.cons (Spl.cons (Spl.cons (Spl.cons (Spl.cons (Spl.cons (Spl.cons (Spl.cons (Spl.cons (Spl.cons Spl.nil))))))))))))))))) | exact (Spl.cons (Spl.cons (Spl.cons (Spl.cons (Spl.cons (Spl.cons (Spl.cons (Spl.cons (Spl.cons (Spl.cons (Spl.cons (Spl.cons (Spl.cons (Spl.cons (Spl.cons (Spl.cons (Spl.cons (Spl.cons Spl.nil)))))))))))))))))) | exact (Spl.cons (Spl.cons (Spl.cons (Spl.cons (Spl.cons (Spl.cons (Spl.cons (Spl.cons (Spl.cons (Spl.cons (Spl.cons (Spl.cons (Spl.cons (Spl.cons (Spl.cons (Spl.cons (Spl.cons (Spl.cons (Spl.cons Spl.nil))))))))))))))))))) | exact (Spl.cons (Spl.cons (Spl.cons (Spl.cons (Spl.cons (Spl.cons (Spl.cons (Spl.cons (Spl.cons (Spl.cons (Spl.cons (Spl.cons (Spl.cons (Spl.cons (Spl.cons (Spl.cons (Spl.cons (Spl.cons (Spl.cons (Spl.cons Spl.nil)))))))))))))))))))) | exact (Spl.cons (Spl.cons (Spl.cons (Spl.cons (Spl.cons (Spl.cons (Spl.cons (Spl.cons (Spl.cons (Spl.cons (Spl.cons (Spl.cons (Spl.cons (Spl.cons (Spl.cons (Spl.cons (Spl.cons (Spl.cons (Spl.cons (Spl.cons (Spl.cons Spl.nil))))))))))))))))))))))))) (by (refine' kpS1 ?_ (by assumption); k_extra "data"; (focus (first | exact (Spl.cons Spl.nil) | exact (Spl.cons (Spl.cons Spl.nil)) | exact (Spl.cons (Spl.cons (Spl.cons Spl.nil))) | exact (Spl.cons (Spl.cons (Spl.cons (Spl.cons Spl.nil)))) | exact (Spl.cons (Spl.cons (Spl.cons (Spl.cons (Spl.cons Spl.nil))))) | exact (Spl.cons (Spl.cons (Spl.cons (Spl.cons (Spl.cons (Spl.cons Spl.nil)))))) | exact (Spl.cons (Spl.cons (Spl.cons (Spl.cons (Spl.cons (Spl.cons (Spl.cons Spl.nil))))))) | exact (Spl.cons (Spl.cons (Spl.cons (Spl.cons (Spl.cons (Spl.cons (Spl.cons (Spl.cons Spl.nil)))))))) | exact (Spl.cons (Spl.cons (Spl.cons (Spl.cons (Spl.cons (Spl.cons (Spl.cons (Spl.cons (Spl.cons Spl.nil))))))))) | exact (Spl.cons (Spl.cons (Spl.cons (Spl.cons (Spl.cons (Spl.cons (Spl.cons (Spl.cons (Spl.cons (Spl.cons Spl.nil)))))))))) | exact (Spl.cons (Spl.cons (Spl.cons (Spl.cons (Spl.cons (Spl.cons (Spl.cons (Spl.cons (Spl.cons (Spl.cons (Spl.cons Spl.nil))))))))))) | exact (Spl.cons (Spl.cons (Spl.cons (Spl.cons (Spl.cons (Spl.cons (Spl.cons (Spl.cons (Spl.cons (Spl.cons (Spl.cons (Spl.cons Spl.nil)))))))))))) | exact (Spl.cons (Spl.cons (Spl.cons (Spl.cons (Spl.cons (Spl.cons (Spl.cons (Spl.cons (Spl.cons (Spl.cons (Spl.cons (Spl.cons (Spl.cons Spl.nil))))))))))))) | exact (Spl.cons (Spl.cons (Spl.cons (Spl.cons (Spl.cons (Spl.cons (Spl.cons (Spl.cons (Spl.cons (Spl.cons (Spl.cons (Spl.cons (Spl.cons (Spl.cons Spl.nil)))))))))))))) | exact (Spl.cons (Spl.cons (Spl.cons (Spl.cons (Spl.cons (Spl.cons (Spl.cons (Spl.cons (Spl.cons (Spl.cons (Spl.cons (Spl.cons (Spl.cons (Spl.cons (Spl.cons Spl.nil))))))))))))))) | exact (Spl.cons (Spl.cons (Spl.cons (Spl.cons (Spl.cons (Spl.cons (Spl.cons (Spl.cons (Spl.cons (Spl.cons (Spl.cons (Spl.cons (Spl.cons (Spl.cons (Spl.cons (Spl.cons Spl.nil)))))))))))))))) | exact (Spl.cons (Spl.cons (Spl.cons (Spl.cons (Spl.cons (Spl.cons (Spl.cons (Spl.cons (Spl.cons (Spl.cons (Spl.cons (Spl.cons (Spl.cons (Spl.cons (Spl.cons (Spl.cons (Spl.cons Spl.nil))))))))))))))))) | exact (Spl.cons (Spl.cons (Spl.cons (Spl.cons (Spl.cons (Spl.cons (Spl.cons (Spl.cons (Spl.cons (Spl.cons (Spl.cons (Spl.cons (Spl.cons (Spl.cons (Spl.cons (Spl.cons (Spl.cons (Spl.cons Spl.nil)))))))))))))))))) | exact (Spl.cons (Spl.cons (Spl.cons (Spl.cons (Spl.cons (Spl.cons (Spl.cons (Spl.cons (Spl.cons (Spl.cons (Spl.cons (Spl.cons (Spl.cons (Spl.cons (Spl.cons (Spl.cons (Spl.cons (Spl.cons (Spl.cons Spl.nil))))))))))))))))))) | exact (Spl.cons (Spl.cons (Spl.cons (Spl.cons (Spl.cons (Spl.cons (Spl.cons (Spl.cons (Spl.cons (Spl.cons (Spl.cons (Spl.cons (Spl.cons (Spl.cons (Spl.cons (Spl.cons (Spl.cons (Spl.cons (Spl.cons (Spl.cons Spl.nil)))))))))))))))))))) | exact (Spl.cons (Spl.cons (Spl.cons (Spl.cons (Spl.cons (Spl.cons (Spl.cons (Spl.cons (Spl.cons (Spl.cons (Spl.cons (Spl.cons (Spl.cons (Spl.cons (Spl.cons (Spl.cons (Spl.cons (Spl.cons (Spl.cons (Spl.cons (Spl.cons Spl.nil)))))))))))))))))))))))))  ?_; (intro t9 h9 tk9 F9 N9); (try k_sweep); (try dsimp only); (try k_fold))))
  k_with "call ref" => (k_here; (with_reducible show wpAny _ _ (call (Value.ref 649) _) _ _ _); k_dflt ((refine' needs_probe_any _ _ _ _ _ _ _ _ _ _ _ _ _ _ _ _ _ _ _ _ _ _ _ _ _ _ _ _ _ _ _ _ _ _ _ _ _ _ _ _ _ _ _ _ _ _ _ _ _ _ _ _ _ _ _ _ _ _ _ _ _ _ _ _ _ _ (by k_asm) (by k_asm) (by k_asm) (by k_asm) (by k_asm) (by first | exact rfl | assumption) (by ktr_room) (by (refine' kpS0 ?_ (by assumption); k_extra "data"; (focus (first | exact (Spl.cons Spl.nil) | exact (Spl.cons (Spl.cons Spl.nil)) | exact (Spl.cons (Spl.cons (Spl.cons Spl.nil))) | exact (Spl.cons (Spl.cons (Spl.cons (Spl.cons Spl.nil)))) | exact (Spl.cons (Spl.cons (Spl.cons (Spl.cons (Spl.cons Spl.nil))))) | exact (Spl.cons (Spl.cons (Spl.cons (Spl.cons (Spl.cons (Spl.cons Spl.nil)))))) | exact (Spl.cons (Spl.cons (Spl.cons (Spl.cons (Spl.cons (Spl.cons (Spl.cons Spl.nil))))))) | exact (Spl.cons (Spl.cons (Spl.cons (Spl.cons (Spl.cons (Spl.cons (Spl.cons (Spl.cons Spl.nil)))))))) | exact (Spl.cons (Spl.cons (Spl.cons (Spl.cons (Spl.cons (Spl.cons (Spl.cons (Spl.cons (Spl.cons Spl.nil))))))))) | exact (Spl.cons (Spl.cons (Spl.cons (Spl.cons (Spl.cons (Spl.cons (Spl.cons (Spl.cons (Spl.cons (Spl.cons Spl.nil)))))))))) | exact (Spl.cons (Spl.cons (Spl.cons (Spl.cons (Spl.cons (Spl.cons (Spl.cons (Spl.cons (Spl.cons (Spl.cons (Spl.cons Spl.nil))))))))))) | exact (Spl.cons (Spl.cons (Spl.cons (Spl.cons (Spl.cons (Spl.cons (Spl.cons (Spl.cons (Spl.cons (Spl.cons (Spl.cons (Spl.cons Spl.nil)))))))))))) | exact (Spl.cons (Spl.cons (Spl.cons (Spl.cons (Spl.cons (Spl.cons (Spl.cons (Spl.cons (Spl.cons (Spl.cons (Spl.cons (Spl.cons (Spl.cons Spl.nil))))))))))))) | exact (Spl.cons (Spl.cons (Spl.cons (Spl.cons (Spl.cons (Spl.cons (Spl.cons (Spl.cons (Spl.cons (Spl.cons (Spl.cons (Spl.cons (Spl.cons (Spl.cons Spl.nil)))))))))))))) | exact (Spl.cons (Spl.cons (Spl.cons (Spl.cons (Spl.cons (Spl.cons (Spl.cons (Spl.cons (Spl.cons (Spl.cons (Spl.cons (Spl.cons (Spl.cons (Spl.cons (Spl.cons Spl.nil))))))))))))))) | exact (Spl.cons (Spl.cons (Spl.cons (Spl.cons (Spl.cons (Spl.cons (Spl.cons (Spl.cons (Spl.cons (Spl.cons (Spl.cons (Spl.cons (Spl.cons (Spl.cons (Spl.cons (Spl.cons Spl.nil)))))))))))))))) | exact (Spl.cons (Spl.cons (Spl.cons (Spl.cons (Spl.cons (Spl.cons (Spl.cons (Spl.cons (Spl.cons (Spl.cons (Spl.cons (Spl.cons (Spl.cons (Spl.cons (Spl.cons (Spl.cons (Spl.cons Spl.nil))))))))))))))))) | exact (Spl.cons (Spl.cons (Spl.cons (Spl.cons (Spl.cons (Spl.cons (Spl.cons (Spl.cons (Spl.cons (Spl.cons (Spl.cons (Spl.cons (Spl.cons (Spl.cons (Spl.cons (Spl.cons (Spl.cons (Spl.cons Spl.nil)))))))))))))))))) | exact (Spl.cons (Spl.cons (Spl.cons (Spl.cons (Spl.cons (Spl.cons (Spl.cons (Spl.cons (Spl.cons (Spl.cons (Spl.cons (Spl.cons (Spl.cons (Spl.cons (Spl.cons (Spl.cons (Spl.cons (Spl.cons (Spl.cons Spl.nil))))))))))))))))))) | exact (Spl.cons (Spl.cons (Spl.cons (Spl.cons (Spl.cons (Spl.cons (Spl.cons (Spl.cons (Spl.cons (Spl.cons (Spl.cons (Spl.cons (Spl.cons (Spl.cons (Spl.cons (Spl.cons (Spl.cons (Spl.cons (Spl.cons (Spl.cons Spl.nil)))))))))))))))))))) | exact (Spl.cons (Spl.cons (Spl.cons (Spl.cons (Spl.cons (Spl.cons (Spl.cons (Spl.cons (Spl.cons (Spl.cons (Spl.cons (Spl.cons (Spl.cons (Spl.cons (Spl.cons (Spl.cons (Spl.cons (Spl.cons (Spl.cons (Spl.cons (Spl.cons Spl.nil))))))))))))))))))))))))) (by (refine' kpS1 ?_ (by assumption); k_extra "data"; (focus (first | exact (Spl.cons Spl.nil) | exact (Spl.cons (Spl.cons Spl.nil)) | exact (Spl.cons (Spl.cons (Spl.cons Spl.nil))) | exact (Spl.cons (Spl.cons (Spl.cons (Spl.cons Spl.nil)))) | exact (Spl.cons (Spl.cons (Spl.cons (Spl.cons (Spl.cons Spl.nil))))) | exact (Spl.cons (Spl.cons (Spl.cons (Spl.cons (Spl.cons (Spl.cons Spl.nil)))))) | exact (Spl.cons (Spl.cons (Spl.cons (Spl.cons (Spl.cons (Spl.cons (Spl.cons Spl.nil))))))) | exact (Spl.cons (Spl.cons (Spl.cons (Spl.cons (Spl.cons (Spl.cons (Spl.cons (Spl.cons Spl.nil)))))))) | exact (Spl.cons (Spl.cons (Spl.cons (Spl.cons (Spl.cons (Spl.cons (Spl.cons (Spl.cons (Spl.cons Spl.nil))))))))) | exact (Spl.cons (Spl.cons (Spl.cons (Spl.cons (Spl.cons (Spl.cons (Spl.cons (Spl.cons (Spl.cons (Spl.cons Spl.nil)))))))))) | exact (Spl.cons (Spl.cons (Spl.cons (Spl.cons (Spl.cons (Spl.cons (Spl.cons (Spl.cons (Spl.cons (Spl.cons (Spl.cons Spl.nil))))))))))) | exact (Spl.cons (Spl.cons (Spl.cons (Spl.cons (Spl.cons (Spl.cons (Spl.cons (Spl.cons (Spl.cons (Spl.cons (Spl.cons (Spl.cons Spl.nil)))))))))))) | exact (Spl.cons (Spl.cons (Spl.cons (Spl.cons (Spl.cons (Spl.cons (Spl.cons (Spl.cons (Spl.cons (Spl.cons (Spl.cons (Spl.cons (Spl.cons Spl.nil))))))))))))) | exact (Spl.cons (Spl.cons (Spl.cons (Spl.cons (Spl.cons (Spl.cons (Spl.cons (Spl.cons (Spl.cons (Spl.cons (Spl.cons (Spl.cons (Spl.cons (Spl.cons Spl.nil)))))))))))))) | exact (Spl.cons (Spl.cons (Spl.cons (Spl.cons (Spl.cons (Spl.cons (Spl.cons (Spl.cons (Spl.cons (Spl.cons (Spl.cons (Spl.cons (Spl.cons (Spl.cons (Spl.cons Spl.nil))))))))))))))) | exact (Spl.cons (Spl.cons (Spl.cons (Spl.cons (Spl.cons (Spl.cons (Spl.cons (Spl.cons (Spl.cons (Spl.cons (Spl.cons (Spl.cons (Spl.cons (Spl.cons (Spl.cons (Spl.cons Spl.nil)))))))))))))))) | exact (Spl.cons (Spl.cons (Spl.cons (Spl.cons (Spl.cons (Spl.cons (Spl.cons (Spl.cons (Spl.cons (Spl.cons (Spl.cons (Spl.cons (Spl.cons (Spl.cons (Spl.cons (Spl.cons (Spl.cons Spl.nil))))))))))))))))) | exact (Spl.cons (Spl.cons (Spl.cons (Spl.cons (Spl.cons (Spl.cons (Spl.cons (Spl.cons (Spl.cons (Spl.cons (Spl.cons (Spl.cons (Spl.cons (Spl.cons (Spl.cons (Spl.cons (Spl.cons (Spl.cons Spl.nil)))))))))))))))))) | exact (Spl.cons (Spl.cons (Spl.cons (Spl.cons (Spl.cons (Spl.cons (Spl.cons (Spl.cons (Spl.cons (Spl.cons (Spl.cons (Spl.cons (Spl.cons (Spl.cons (Spl.cons (Spl.cons (Spl.cons (Spl.cons (Spl.cons Spl.nil))))))))))))))))))) | exact (Spl.cons (Spl.cons (Spl.cons (Spl.cons (Spl.cons (Spl.cons (Spl.cons (Spl.cons (Spl.cons (Spl.cons (Spl.cons (Spl.cons (Spl.cons (Spl.cons (Spl.cons (Spl.cons (Spl.cons (Spl.cons (Spl.cons (Spl.cons Spl.nil)))))))))))))))))))) | exact (Spl.cons (Spl.cons (Spl.cons (Spl.cons (Spl.cons (Spl.cons (Spl.cons (Spl.cons (Spl.cons (Spl.cons (Spl.cons (Spl.cons (Spl.cons (Spl.cons (Spl.cons (Spl.cons (Spl.cons (Spl.cons (Spl.cons (Spl.cons (Spl.cons Spl.nil))))))))))))))))))))))))) (by (refine' kpS2 ?_ (by assumption); k_extra "data"; (focus (first | exact (Spl.cons Spl.nil) | exact (Spl.cons (Spl.cons Spl.nil)) | exact (Spl.cons (Spl.cons (Spl.cons Spl.nil))) | exact (Spl.cons (Spl.cons (Spl.cons (Spl.cons Spl.nil)))) | exact (Spl.cons (Spl.cons (Spl.cons (Spl.cons (Spl.cons Spl.nil))))) | exact (Spl.cons (Spl.cons (Spl.cons (Spl.cons (Spl.cons (Spl.cons Spl.nil)))))) | exact (Spl.cons (Spl.cons (Spl.cons (Spl.cons (Spl.cons (Spl.cons (Spl.cons Spl.nil))))))) | exact (Spl.cons (Spl.cons (Spl.cons (Spl.cons (Spl.cons (Spl.cons (Spl.cons (Spl.cons Spl.nil)))))))) | exact (Spl.cons (Spl.cons (Spl.cons (Spl.cons (Spl.cons (Spl.cons (Spl.cons (Spl.cons (Spl.cons Spl.nil))))))))) | exact (Spl.cons (Spl.cons (Spl.cons (Spl.cons (Spl.cons (Spl.cons (Spl.cons (Spl.cons (Spl.cons (Spl.cons Spl.nil)))))))))) | exact (Spl.cons (Spl.cons (Spl.cons (Spl.cons (Spl.cons (Spl.cons (Spl.cons (Spl.cons (Spl.cons (Spl.cons (Spl.cons Spl.nil))))))))))) | exact (Spl.cons (Spl.cons (Spl.cons (Spl.cons (Spl.cons (Spl.cons (Spl.cons (Spl.cons (Spl.cons (Spl.cons (Spl.cons (Spl.cons Spl.nil)))))))))))) | exact (Spl.cons (Spl.cons (Spl.cons (Spl.cons (Spl.cons (Spl.cons (Spl.cons (Spl.cons (Spl.cons (Spl.cons (Spl.cons (Spl.cons (Spl.cons Spl.nil))))))))))))) | exact (Spl.cons (Spl.cons (Spl.cons (Spl.cons (Spl.cons (Spl.cons (Spl.cons (Spl.cons (Spl.cons (Spl.cons (Spl.cons (Spl.cons (Spl.cons (Spl.cons Spl.nil)))))))))))))) | exact (Spl.cons (Spl.cons (Spl.cons (Spl.cons (Spl.cons (Spl.cons (Spl.cons (Spl.cons (Spl.cons (Spl.cons (Spl.cons (Spl.cons (Spl.cons (Spl.cons (Spl.cons Spl.nil))))))))))))))) | exact (Spl.cons (Spl.cons (Spl.cons (Spl.cons (Spl.cons (Spl.cons (Spl.cons (Spl.cons (Spl.cons (Spl.cons (Spl.cons (Spl.cons (Spl.cons (Spl.cons (Spl.cons (Spl.cons Spl.nil)))))))))))))))) | exact (Spl.cons (Spl.cons (Spl.cons (Spl.cons (Spl.cons (Spl.cons (Spl.cons (Spl.cons (Spl.cons (Spl.cons (Spl.cons (Spl.cons (Spl.cons (Spl.cons (Spl.cons (Spl.cons (Spl.cons Spl.nil))))))))))))))))) | exact (Spl.cons (Spl.cons (Spl.cons (Spl.cons (Spl.cons (Spl.cons (Spl.cons (Spl.cons (Spl.cons (Spl.cons (Spl.cons (Spl.cons (Spl.cons (Spl.cons (Spl.cons (Spl.cons (Spl.cons (Spl.cons Spl.nil)))))))))))))))))) | exact (Spl.cons (Spl.cons (Spl.cons (Spl.cons (Spl.cons (Spl.cons (Spl.cons (Spl.cons (Spl.cons (Spl.cons (Spl.cons (Spl.cons (Spl.cons (Spl.cons (Spl.cons (Spl.cons (Spl.cons (Spl.cons (Spl.cons Spl.nil))))))))))))))))))) | exact (Spl.cons (Spl.cons (Spl.cons (Spl.cons (Spl.cons (Spl.cons (Spl.cons (Spl.cons (Spl.cons (Spl.cons (Spl.cons (Spl.cons (Spl.cons (Spl.cons (Spl.cons (Spl.cons (Spl.cons (Spl.cons (Spl.cons (Spl.cons Spl.nil)))))))))))))))))))) | exact (Spl.cons (Spl.cons (Spl.cons (Spl.cons (Spl.cons (Spl.cons (Spl.cons (Spl.cons (Spl.cons (Spl.cons (Spl.cons (Spl.cons (Spl.cons (Spl.cons (Spl.cons (Spl.cons (Spl.cons (Spl.cons (Spl.cons (Spl.cons (Spl.cons Spl.nil))))))))))))))))))))))))) (by (refine' kpS3 ?_ (by assumption); k_extra "data"; (focus (first | exact (Spl.cons Spl.nil) | exact (Spl.cons (Spl.cons Spl.nil)) | exact (Spl.cons (Spl.cons (Spl.cons Spl.nil))) | exact (Spl.cons (Spl.cons (Spl.cons (Spl.cons Spl.nil)))) | exact (Spl.cons (Spl.cons (Spl.cons (Spl.cons (Spl.cons Spl.nil))))) | exact (Spl.cons (Spl.cons (Spl.cons (Spl.cons (Spl.cons (Spl.cons Spl.nil)))))) | exact (Spl.cons (Spl.cons (Spl.cons (Spl.cons (Spl.cons (Spl.cons (Spl.cons Spl.nil))))))) | exact (Spl.cons (Spl.cons (Spl.cons (Spl.cons (Spl.cons (Spl.cons (Spl.cons (Spl.cons Spl.nil)))))))) | exact (Spl.cons (Spl.cons (Spl.cons (Spl.cons (Spl.cons (Spl.cons (Spl.cons (Spl.cons (Spl.cons Spl.nil))))))))) | exact (Spl.cons (Spl.cons (Spl.cons (Spl.cons (Spl.cons (Spl.cons (Spl.cons (Spl.cons (Spl.cons (Spl.cons Spl.nil)))))))))) | exact (Spl.cons (Spl.cons (Spl.cons (Spl.cons (Spl.cons (Spl.cons (Spl.cons (Spl.cons (Spl.cons (Spl.cons (Spl.cons Spl.nil))))))))))) | exact (Spl.cons (Spl.cons (Spl.cons (Spl.cons (Spl.cons (Spl.cons (Spl.cons (Spl.cons (Spl.cons (Spl.cons (Spl.cons (Spl.cons Spl.nil)))))))))))) | exact (Spl.cons (Spl.cons (Spl.cons (Spl.cons (Spl.cons (Spl.cons (Spl.cons (Spl.cons (Spl.cons (Spl.cons (Spl.cons (Spl.cons (Spl.cons Spl.nil))))))))))))) | exact (Spl.cons (Spl.cons (Spl.cons (Spl.cons (Spl.cons (Spl.cons (Spl.cons (Spl.cons (Spl.cons (Spl.cons (Spl.cons (Spl.cons (Spl.cons (Spl.cons Spl.nil)))))))))))))) | exact (Spl.cons (Spl.cons (Spl.cons (Spl.cons (Spl.cons (Spl.cons (Spl.cons (Spl.cons (Spl.cons (Spl.cons (Spl.cons (Spl.cons (Spl.cons (Spl.cons (Spl.cons Spl.nil))))))))))))))) | exact (Spl.cons (Spl.cons (Spl.cons (Spl.cons (Spl.cons (Spl.cons (Spl.cons (Spl.cons (Spl.cons (Spl.cons (Spl.cons (Spl.cons (Spl.cons (Spl.cons (Spl.cons (Spl.cons Spl.nil)))))))))))))))) | exact (Spl.cons (Spl.cons (Spl.cons (Spl.cons (Spl.cons (Spl.cons (Spl.cons (Spl.cons (Spl.cons (Spl.cons (Spl.cons (Spl.cons (Spl.cons (Spl.cons (Spl.cons (Spl.cons (Spl.cons Spl.nil))))))))))))))))) | exact (Spl.cons (Spl.cons (Spl.cons (Spl.cons (Spl.cons (Spl.cons (Spl.cons (Spl.cons (Spl.cons (Spl.cons (Spl.cons (Spl.cons (Spl.cons (Spl.cons (Spl.cons (Spl.cons (Spl.cons (Spl.cons Spl.nil)))))))))))))))))) | exact (Spl.cons (Spl.cons (Spl.cons (Spl.cons (Spl.cons (Spl.cons (Spl.cons (Spl.cons (Spl.cons (Spl.cons (Spl.cons (Spl.cons (Spl.cons (Spl.cons (Spl.cons (Spl.cons (Spl.cons (Spl.cons (Spl.cons Spl.nil))))))))))))))))))) | exact (Spl.cons (Spl.cons (Spl.cons (Spl.cons (Spl.cons (Spl.cons (Spl.cons (Spl.cons (Spl.cons (Spl.cons (Spl.cons (Spl.cons (Spl.cons (Spl.cons (Spl.cons (Spl.cons (Spl.cons (Spl.cons (Spl.cons (Spl.cons Spl.nil)))))))))))))))))))) | exact (Spl.cons (Spl.cons (Spl.cons (Spl.cons (Spl.cons (Spl.cons (Spl.cons (Spl.cons (Spl.cons (Spl.cons (Spl.cons (Spl.cons (Spl.cons (Spl.cons (Spl.cons (Spl.cons (Spl.cons (Spl.cons (Spl.cons (Spl.cons (Spl.cons Spl.nil))))))))))))))))))))))))) (by (refine' kpS4 ?_ (by assumption); k_extra "data"; (focus (first | exact (Spl.cons Spl.nil) | exact (Spl.cons (Spl.cons Spl.nil)) | exact (Spl.cons (Spl.cons (Spl.cons Spl.nil))) | exact (Spl.cons (Spl.cons (Spl.cons (Spl.cons Spl.nil)))) | exact (Spl.cons (Spl.cons (Spl.cons (Spl.cons (Spl.cons Spl.nil))))) | exact (Spl.cons (Spl.cons (Spl.cons (Spl.cons (Spl.cons (Spl.cons Spl.nil)))))) | exact (Spl.cons (Spl.cons (Spl.cons (Spl.cons (Spl.cons (Spl.cons (Spl.cons Spl.nil))))))) | exact (Spl.cons (Spl.cons (Spl.cons (Spl.cons (Spl.cons (Spl.cons (Spl.cons (Spl.cons Spl.nil)))))))) | exact (Spl.cons (Spl.cons (Spl.cons (Spl.cons (Spl.cons (Spl.cons (Spl.cons (Spl.cons (Spl.cons Spl.nil))))))))) | exact (Spl.cons (Spl.cons (Spl.cons (Spl.cons (Spl.cons (Spl.cons (Spl.cons (Spl.cons (Spl.cons (Spl.cons Spl.nil)))))))))) | exact (Spl.cons (Spl.cons (Spl.cons (Spl.cons (Spl.cons (Spl.cons (Spl.cons (Spl.cons (Spl.cons (Spl.cons (Spl.cons Spl.nil))))))))))) | exact (Spl.cons (Spl.cons (Spl.cons (Spl.cons (Spl.cons (Spl.cons (Spl.cons (Spl.cons (Spl.cons (Spl.cons (Spl.cons (Spl.cons Spl.nil)))))))))))) | exact (Spl.cons (Spl.cons (Spl.cons (Spl.cons (Spl.cons (Spl.cons (Spl.cons (Spl.cons (Spl.cons (Spl.cons (Spl.cons (Spl.cons (Spl.cons Spl.nil))))))))))))) | exact (Spl.cons (Spl.cons (Spl.cons (Spl.cons (Spl.cons (Spl.cons (Spl.cons (Spl.cons (Spl.cons (Spl.cons (Spl.cons (Spl.cons (Spl.cons (Spl.cons Spl.nil)))))))))))))) | exact (Spl.cons (Spl.cons (Spl.cons (Spl.cons (Spl.cons (Spl.cons (Spl.cons (Spl.cons (Spl.cons (Spl.cons (Spl.cons (Spl.cons (Spl.cons (Spl.cons (Spl.cons Spl.nil))))))))))))))) | exact (Spl.cons (Spl.cons (Spl.cons (Spl.cons (Spl.cons (Spl.cons (Spl.cons (Spl.cons (Spl.cons (Spl.cons (Spl.cons (Spl.cons (Spl.cons (Spl.cons (Spl.cons (Spl.cons Spl.nil)))))))))))))))) | exact (Spl.cons (Spl.cons (Spl.cons (Spl.cons (Spl.cons (Spl.cons (Spl.cons (Spl.cons (Spl.cons (Spl.cons (Spl.cons (Spl.cons (Spl.cons (Spl.cons (Spl.cons (Spl.cons (Spl.cons Spl.nil))))))))))))))))) | exact (Spl.cons (Spl.cons (Spl.cons (Spl.cons (Spl.cons (Spl.cons (Spl.cons (Spl.cons (Spl.cons (Spl.cons (Spl.cons (Spl.cons (Spl.cons (Spl.cons (Spl.cons (Spl.cons (Spl.cons (Spl.cons Spl.nil)))))))))))))))))) | exact (Spl.cons (Spl.cons (Spl.cons (Spl.cons (Spl.cons (Spl.cons (Spl.cons (Spl.cons (Spl.cons (Spl.cons (Spl.cons (Spl.cons (Spl.cons (Spl.cons (Spl.cons (Spl.cons (Spl.cons (Spl.cons (Spl.cons Spl.nil))))))))))))))))))) | exact (Spl.cons (Spl.cons (Spl.cons (Spl.cons (Spl.cons (Spl.cons (Spl.cons (Spl.cons (Spl.cons (Spl.cons (Spl.cons (Spl.cons (Spl.cons (Spl.cons (Spl.cons (Spl.cons (Spl.cons (Spl.cons (Spl.cons (Spl.cons Spl.nil)))))))))))))))))))) | exact (Spl.cons (Spl.cons (Spl.cons (Spl.cons (Spl.cons (Spl.cons (Spl.cons (Spl.cons (Spl.cons (Spl.cons (Spl.cons (Spl.cons (Spl.cons (Spl.cons (Spl.cons (Spl.cons (Spl.cons (Spl.cons (Spl.cons (Spl.cons (Spl.cons Spl.nil))))))))))))))))))))))))) (by (refine' kpS5 ?_ (by assumption); k_extra "data"; (focus (first | exact (Spl.cons Spl.nil) | exact (Spl.cons (Spl.cons Spl.nil)) | exact (Spl.cons (Spl.cons (Spl.cons Spl.nil))) | exact (Spl.cons (Spl.cons (Spl.cons (Spl.cons Spl.nil)))) | exact (Spl.cons (Spl.cons (Spl.cons (Spl.cons (Spl.cons Spl.nil))))) | exact (Spl.cons (Spl.cons (Spl.cons (Spl.cons (Spl.cons (Spl.cons Spl.nil)))))) | exact (Spl.cons (Spl.cons (Spl.cons (Spl.cons (Spl.cons (Spl.cons (Spl.cons Spl.nil))))))) | exact (Spl.cons (Spl.cons (Spl.cons (Spl.cons (Spl.cons (Spl.cons (Spl.cons (Spl.cons Spl.nil)))))))) | exact (Spl.cons (Spl.cons (Spl.cons (Spl.cons (Spl.cons (Spl.cons (Spl.cons (Spl.cons (Spl.cons Spl.nil))))))))) | exact (Spl.cons (Spl.cons (Spl.cons (Spl.cons (Spl.cons (Spl.cons (Spl.cons (Spl.cons (Spl.cons (Spl.cons Spl.nil)))))))))) | exact (Spl.cons (Spl.cons (Spl.cons (Spl.cons (Spl.cons (Spl.cons (Spl.cons (Spl.cons (Spl.cons (Spl.cons (Spl.cons Spl.nil))))))))))) | exact (Spl.cons (Spl.cons (Spl.cons (Spl.cons (Spl.cons (Spl.cons (Spl.cons (Spl.cons (Spl.cons (Spl.cons (Spl.cons (Spl.cons Spl.nil)))))))))))) | exact (Spl.cons (Spl.cons (Spl.cons (Spl.cons (Spl.cons (Spl.cons (Spl.cons (Spl.cons (Spl.cons (Spl.cons (Spl.cons (Spl.cons (Spl.cons Spl.nil))))))))))))) | exact (Spl.cons (Spl.cons (Spl.cons (Spl.cons (Spl.cons (Spl.cons (Spl.cons (Spl.cons (Spl.cons (Spl.cons (Spl.cons (Spl.cons (Spl.cons (Spl.cons Spl.nil)))))))))))))) | exact (Spl.cons (Spl.cons (Spl.cons (Spl.cons (Spl.cons (Spl.cons (Spl.cons (Spl.cons (Spl.cons (Spl.cons (Spl.cons (Spl.cons (Spl.cons (Spl.cons (Spl.cons Spl.nil))))))))))))))) | exact (Spl.cons (Spl.cons (Spl.cons (Spl.cons (Spl.cons (Spl.cons (Spl.cons (Spl.cons (Spl.cons (Spl.cons (Spl.cons (Spl.cons (Spl.cons (Spl.cons (Spl.cons (Spl.cons Spl.nil)))))))))))))))) | exact (Spl.cons (Spl.cons (Spl.cons (Spl.cons (Spl.cons (Spl.cons (Spl.cons (Spl.cons (Spl.cons (Spl.cons (Spl.cons (Spl.cons (Spl.cons (Spl.cons (Spl.cons (Spl.cons (Spl.cons Spl.nil))))))))))))))))) | exact (Spl.cons (Spl.cons (Spl.cons (Spl.cons (Spl.cons (Spl.cons (Spl.cons (Spl.cons (Spl.cons (Spl.cons (Spl.cons (Spl.cons (Spl.cons (Spl.cons (Spl.cons (Spl.cons (Spl.cons (Spl.cons Spl.nil)))))))))))))))))) | exact (Spl.cons (Spl.cons (Spl.cons (Spl.cons (Spl.cons (Spl.cons (Spl.cons (Spl.cons (Spl.cons (Spl.cons (Spl.cons (Spl.cons (Spl.cons (Spl.cons (Spl.cons (Spl.cons (Spl.cons (Spl.cons (Spl.cons Spl.nil))))))))))))))))))) | exact (Spl.cons (Spl.cons (Spl.cons (Spl.cons (Spl.cons (Spl.cons (Spl.cons (Spl.cons (Spl.cons (Spl.cons (Spl.cons (Spl.cons (Spl.cons (Spl.cons (Spl.cons (Spl.cons (Spl.cons (Spl.cons (Spl.cons (Spl.cons Spl.nil)))))))))))))))))))) | exact (Spl.cons (Spl.cons (Spl.cons (Spl.cons (Spl.cons (Spl.cons (Spl.cons (Spl.cons (Spl.cons (Spl.cons (Spl.cons (Spl.cons (Spl.cons (Spl.cons (Spl.cons (Spl.cons (Spl.cons (Spl.cons (Spl.cons (Spl.cons (Spl.cons Spl.nil))))))))))))))))))))))))) (by assumption) (by assumption) ?_; (intro  h9 tk9 F9 N9); (try k_sweep); (try dsimp only); (try k_fold))))
  k_with "call ref" => (k_here; (with_reducible show wpAny _ _ (call (Value.ref 274) _) _ _ _); k_dflt ((refine' deadline_ok _ _ _ _ _ _ _ _ _ _ _ _ _ _ _ _ _ _ _ _ _ _ _ _ _ _ (by k_asm) (by k_asm) (by k_asm) (by k_asm) (by k_asm) (by first | exact rfl | assumption) (by ktr_room) (by (refine' kpS6 ?_ (by assumption); k_extra "data"; (focus (first | exact (Spl.cons Spl.nil) | exact (Spl.cons (Spl.cons Spl.nil)) | exact (Spl.cons (Spl.cons (Spl.cons Spl.nil))) | exact (Spl.cons (Spl.cons (Spl.cons (Spl.cons Spl.nil)))) | exact (Spl.cons (Spl.cons (Spl.cons (Spl.cons (Spl.cons Spl.nil))))) | exact (Spl.cons (Spl.cons (Spl.cons (Spl.cons (Spl.cons (Spl.cons Spl.nil)))))) | exact (Spl.cons (Spl.cons (Spl.cons (Spl.cons (Spl.cons (Spl.cons (Spl.cons Spl.nil))))))) | exact (Spl.cons (Spl.cons (Spl.cons (Spl.cons (Spl.cons (Spl.cons (Spl.cons (Spl.cons Spl.nil)))))))) | exact (Spl.cons (Spl.cons (Spl.cons (Spl.cons (Spl.cons (Spl.cons (Spl.cons (Spl.cons (Spl.cons Spl.nil))))))))) | exact (Spl.cons (Spl.cons (Spl.cons (Spl.cons (Spl.cons (Spl.cons (Spl.cons (Spl.cons (Spl.cons (Spl.cons Spl.nil)))))))))) | exact (Spl.cons (Spl.cons (Spl.cons (Spl.cons (Spl.cons (Spl.cons (Spl.cons (Spl.cons (Spl.cons (Spl.cons (Spl.cons Spl.nil))))))))))) | exact (Spl.cons (Spl.cons (Spl.cons (Spl.cons (Spl.cons (Spl.cons (Spl.cons (Spl.cons (Spl.cons (Spl.cons (Spl.cons (Spl.cons Spl.nil)))))))))))) | exact (Spl.cons (Spl.cons (Spl.cons (Spl.cons (Spl.cons (Spl.cons (Spl.cons (Spl.cons (Spl.cons (Spl.cons (Spl.cons (Spl.cons (Spl.cons Spl.nil))))))))))))) | exact (Spl.cons (Spl.cons (Spl.cons (Spl.cons (Spl.cons (Spl.cons (Spl.cons (Spl.cons (Spl.cons (Spl.cons (Spl.cons (Spl.cons (Spl.cons (Spl.cons Spl.nil)))))))))))))) | exact (Spl.cons (Spl.cons (Spl.cons (Spl.cons (Spl.cons (Spl.cons (Spl.cons (Spl.cons (Spl.cons (Spl.cons (Spl.cons (Spl.cons (Spl.cons (Spl.cons (Spl.cons Spl.nil))))))))))))))) | exact (Spl.cons (Spl.cons (Spl.cons (Spl.cons (Spl.cons (Spl.cons (Spl.cons (Spl.cons (Spl.cons (Spl.cons (Spl.cons (Spl.cons (Spl.cons (Spl.cons (Spl.cons (Spl.cons Spl.nil)))))))))))))))) | exact (Spl.cons (Spl.cons (Spl.cons (Spl.cons (Spl.cons (Spl.cons (Spl.cons (Spl.cons (Spl.cons (Spl.cons (Spl.cons (Spl.cons (Spl.cons (Spl.cons (Spl.cons (Spl.cons (Spl.cons Spl.nil))))))))))))))))) | exact (Spl.cons (Spl.cons (Spl.cons (Spl.cons (Spl.cons (Spl.cons (Spl.cons (Spl.cons (Spl.cons (Spl.cons (Spl.cons (Spl.cons (Spl.cons (Spl.cons (Spl.cons (Spl.cons (Spl.cons (Spl.cons Spl.nil)))))))))))))))))) | exact (Spl.cons (Spl.cons (Spl.cons (Spl.cons (Spl.cons (Spl.cons (Spl.cons (Spl.cons (Spl.cons (Spl.cons (Spl.cons (Spl.cons (Spl.cons (Spl.cons (Spl.cons (Spl.cons (Spl.cons (Spl.cons (Spl.cons Spl.nil))))))))))))))))))) | exact (Spl.cons (Spl.cons (Spl.cons (Spl.cons (Spl.cons (Spl.cons (Spl.cons (Spl.cons (Spl.cons (Spl.cons (Spl.cons (Spl.cons (Spl.cons (Spl.cons (Spl.cons (Spl.cons (Spl.cons (Spl.cons (Spl.cons (Spl.cons Spl.nil)))))))))))))))))))) | exact (Spl.cons (Spl.cons (Spl.cons (Spl.cons (Spl.cons (Spl.cons (Spl.cons (Spl.cons (Spl.cons (Spl.cons (Spl.cons (Spl.cons (Spl.cons (Spl.cons (Spl.cons (Spl.cons (Spl.cons (Spl.cons (Spl.cons (Spl.cons (Spl.cons Spl.nil))))))))))))))))))))))))) (by (refine' kpS7 ?_ (by assumption); k_extra "data"; (focus (first | exact (Spl.cons Spl.nil) | exact (Spl.cons (Spl.cons Spl.nil)) | exact (Spl.cons (Spl.cons (Spl.cons Spl.nil))) | exact (Spl.cons (Spl.cons (Spl.cons (Spl.cons Spl.nil)))) | exact (Spl.cons (Spl.cons (Spl.cons (Spl.cons (Spl.cons Spl.nil))))) | exact (Spl.cons (Spl.cons (Spl.cons (Spl.cons (Spl.cons (Spl.cons Spl.nil)))))) | exact (Spl.cons (Spl.cons (Spl.cons (Spl.cons (Spl.cons (Spl.cons (Spl.cons Spl.nil))))))) | exact (Spl.cons (Spl.cons (Spl.cons (Spl.cons (Spl.cons (Spl.cons (Spl.cons (Spl.cons Spl.nil)))))))) | exact (Spl.cons (Spl.cons (Spl.cons (Spl.cons (Spl.cons (Spl.cons (Spl.cons (Spl.cons (Spl.cons Spl.nil))))))))) | exact (Spl.cons (Spl.cons (Spl.cons (Spl.cons (Spl.cons (Spl.cons (Spl.cons (Spl.cons (Spl.cons (Spl.cons Spl.nil)))))))))) | exact (Spl.cons (Spl.cons (Spl.cons (Spl.cons (Spl.cons (Spl.cons (Spl.cons (Spl.cons (Spl.cons (Spl.cons (Spl.cons Spl.nil))))))))))) | exact (Spl.cons (Spl.cons (Spl.cons (Spl.cons (Spl.cons (Spl.cons (Spl.cons (Spl.cons (Spl.cons (Spl.cons (Spl.cons (Spl.cons Spl.nil)))))))))))) | exact (Spl.cons (Spl.cons (Spl.cons (Spl.cons (Spl.cons (Spl.cons (Spl.cons (Spl.cons (Spl.cons (Spl.cons (Spl.cons (Spl.cons (Spl.cons Spl.nil))))))))))))) | exact (Spl.cons (Spl.cons (Spl.cons (Spl.cons (Spl.cons (Spl.cons (Spl.cons (Spl.cons (Spl.cons (Spl.cons (Spl.cons (Spl.cons (Spl.cons (Spl.cons Spl.nil)))))))))))))) | exact (Spl.cons (Spl.cons (Spl.cons (Spl.cons (Spl.cons (Spl.cons (Spl.cons (Spl.cons (Spl.cons (Spl.cons (Spl.cons (Spl.cons (Spl.cons (Spl.cons (Spl.cons Spl.nil))))))))))))))) | exact (Spl.cons (Spl.cons (Spl.cons (Spl.cons (Spl.cons (Spl.cons (Spl.cons (Spl.cons (Spl.cons (Spl.cons (Spl.cons (Spl.cons (Spl.cons (Spl.cons (Spl.cons (Spl.cons Spl.nil)))))))))))))))) | exact (Spl.cons (Spl.cons (Spl.cons (Spl.cons (Spl.cons (Spl.cons (Spl.cons (Spl.cons (Spl.cons (Spl.cons (Spl.cons (Spl.cons (Spl.cons (Spl.cons (Spl.cons (Spl.cons (Spl.cons Spl.nil))))))))))))))))) | exact (Spl.cons (Spl.cons (Spl.cons (Spl.cons (Spl.cons (Spl.cons (Spl.cons (Spl.cons (Spl.cons (Spl.cons (Spl.cons (Spl.cons (Spl.cons (Spl.cons (Spl.cons (Spl.cons (Spl.cons (Spl.cons Spl.nil)))))))))))))))))) | exact (Spl.cons (Spl.cons (Spl.cons (Spl.cons (Spl.cons (Spl.cons (Spl.cons (Spl.cons (Spl.cons (Spl.cons (Spl.cons (Spl.cons (Spl.cons (Spl.cons (Spl.cons (Spl.cons (Spl.cons (Spl.cons (Spl.cons Spl.nil))))))))))))))))))) | exact (Spl.cons (Spl.cons (Spl.cons (Spl.cons (Spl.cons (Spl.cons (Spl.cons (Spl.cons (Spl.cons (Spl.cons (Spl.cons (Spl.cons (Spl.cons (Spl.cons (Spl.cons (Spl.cons (Spl.cons (Spl.cons (Spl.cons (Spl.cons Spl.nil)))))))))))))))))))) | exact (Spl.cons (Spl.cons (Spl.cons (Spl.cons (Spl.cons (Spl.cons (Spl.cons (Spl.cons (Spl.cons (Spl.cons (Spl.cons (Spl.cons (Spl.cons (Spl.cons (Spl.cons (Spl.cons (Spl.cons (Spl.cons (Spl.cons (Spl.cons (Spl.cons Spl.nil))))))))))))))))))))))))) (by (refine' kpS8 ?_ (by assumption); k_extra "data"; (focus (first | exact (Spl.cons Spl.nil) | exact (Spl.cons (Spl.cons Spl.nil)) | exact (Spl.cons (Spl.cons (Spl.cons Spl.nil))) | exact (Spl.cons (Spl.cons (Spl.cons (Spl.cons Spl.nil)))) | exact (Spl.cons (Spl.cons (Spl.cons (Spl.cons (Spl.cons Spl.nil))))) | exact (Spl.cons (Spl.cons (Spl.cons (Spl.cons (Spl.cons (Spl.cons Spl.nil)))))) | exact (Spl.cons (Spl.cons (Spl.cons (Spl.cons (Spl.cons (Spl.cons (Spl.cons Spl.nil))))))) | exact (Spl.cons (Spl.cons (Spl.cons (Spl.cons (Spl.cons (Spl.cons (Spl.cons (Spl.cons Spl.nil)))))))) | exact (Spl.cons (Spl.cons (Spl.cons (Spl.cons (Spl.cons (Spl.cons (Spl.cons (Spl.cons (Spl.cons Spl.nil))))))))) | exact (Spl.cons (Spl.cons (Spl.cons (Spl.cons (Spl.cons (Spl.cons (Spl.cons (Spl.cons (Spl.cons (Spl.cons Spl.nil)))))))))) | exact (Spl.cons (Spl.cons (Spl.cons (Spl.cons (Spl.cons (Spl.cons (Spl.cons (Spl.cons (Spl.cons (Spl.cons (Spl.cons Spl.nil))))))))))) | exact (Spl.cons (Spl.cons (Spl.cons (Spl.cons (Spl.cons (Spl.cons (Spl.cons (Spl.cons (Spl.cons (Spl.cons (Spl.cons (Spl.cons Spl.nil)))))))))))) | exact (Spl.cons (Spl.cons (Spl.cons (Spl.cons (Spl.cons (Spl.cons (Spl.cons (Spl.cons (Spl.cons (Spl.cons (Spl.cons (Spl.cons (Spl.cons Spl.nil))))))))))))) | exact (Spl.cons (Spl.cons (Spl.cons (Spl.cons (Spl.cons (Spl.cons (Spl.cons (Spl.cons (Spl.cons (Spl.cons (Spl.cons (Spl.cons (Spl.cons (Spl.cons Spl.nil)))))))))))))) | exact (Spl.cons (Spl.cons (Spl.cons (Spl.cons (Spl.cons (Spl.cons (Spl.cons (Spl.cons (Spl.cons (Spl.cons (Spl.cons (Spl.cons (Spl.cons (Spl.cons (Spl.cons Spl.nil))))))))))))))) | exact (Spl.cons (Spl.cons (Spl.cons (Spl.cons (Spl.cons (Spl.cons (Spl.cons (Spl.cons (Spl.cons (Spl.cons (Spl.cons (Spl.cons (Spl.cons (Spl.cons (Spl.cons (Spl.cons Spl.nil)))))))))))))))) | exact (Spl.cons (Spl.cons (Spl.cons (Spl.cons (Spl.cons (Spl.cons (Spl.cons (Spl.cons (Spl.cons (Spl.cons (Spl.cons (Spl.cons (Spl.cons (Spl.cons (Spl.cons (Spl.cons (Spl.cons Spl.nil))))))))))))))))) | exact (Spl.cons (Spl.cons (Spl.cons (Spl.cons (Spl.cons (Spl.cons (Spl.cons (Spl.cons (Spl.cons (Spl.cons (Spl.cons (Spl.cons (Spl.cons (Spl.cons (Spl.cons (Spl.cons (Spl.cons (Spl.cons Spl.nil)))))))))))))))))) | exact (Spl.cons (Spl.cons (Spl.cons (Spl.cons (Spl.cons (Spl.cons (Spl.cons (Spl.cons (Spl.cons (Spl.cons (Spl.cons (Spl.cons (Spl.cons (Spl.cons (Spl.cons (Spl.cons (Spl.cons (Spl.cons (Spl.cons Spl.nil))))))))))))))))))) | exact (Spl.cons (Spl.cons (Spl.cons (Spl.cons (Spl.cons (Spl.cons (Spl.cons (Spl.cons (Spl.cons (Spl.cons (Spl.cons (Spl.cons (Spl.cons (Spl.cons (Spl.cons (Spl.cons (Spl.cons (Spl.cons (Spl.cons (Spl.cons Spl.nil)))))))))))))))))))) | exact (Spl.cons (Spl.cons (Spl.cons (Spl.cons (Spl.cons (Spl.cons (Spl.cons (Spl.cons (Spl.cons (Spl.cons (Spl.cons (Spl.cons (Spl.cons (Spl.cons (Spl.cons (Spl.cons (Spl.cons (Spl.cons (Spl.cons (Spl.cons (Spl.cons Spl.nil))))))))))))))))))))))))) (by (refine' kpS9 ?_ (by assumption); k_extra "data"; (focus (first | exact (Spl.cons Spl.nil) | exact (Spl.cons (Spl.cons Spl.nil)) | exact (Spl.cons (Spl.cons (Spl.cons Spl.nil))) | exact (Spl.cons (Spl.cons (Spl.cons (Spl.cons Spl.nil)))) | exact (Spl.cons (Spl.cons (Spl.cons (Spl.cons (Spl.cons Spl.nil))))) | exact (Spl.cons (Spl.cons (Spl.cons (Spl.cons (Spl.cons (Spl.cons Spl.nil)))))) | exact (Spl.cons (Spl.cons (Spl.cons (Spl.cons (Spl.cons (Spl.cons (Spl.cons Spl.nil))))))) | exact (Spl.cons (Spl.cons (Spl.cons (Spl.cons (Spl.cons (Spl.cons (Spl.cons (Spl.cons Spl.nil)))))))) | exact (Spl.cons (Spl.cons (Spl.cons (Spl.cons (Spl.cons (Spl.cons (Spl.cons (Spl.cons (Spl.cons Spl.nil))))))))) | exact (Spl.cons (Spl.cons (Spl.cons (Spl.cons (Spl.cons (Spl.cons (Spl.cons (Spl.cons (Spl.cons (Spl.cons Spl.nil)))))))))) | exact (Spl.cons (Spl.cons (Spl.cons (Spl.cons (Spl.cons (Spl.cons (Spl.cons (Spl.cons (Spl.cons (Spl.cons (Spl.cons Spl.nil))))))))))) | exact (Spl.cons (Spl.cons (Spl.cons (Spl.cons (Spl.cons (Spl.cons (Spl.cons (Spl.cons (Spl.cons (Spl.cons (Spl.cons (Spl.cons Spl.nil)))))))))))) | exact (Spl.cons (Spl.cons (Spl.cons (Spl.cons (Spl.cons (Spl.cons (Spl.cons (Spl.cons (Spl.cons (Spl.cons (Spl.cons (Spl.cons (Spl.cons Spl.nil))))))))))))) | exact (Spl.cons (Spl.cons (Spl.cons (Spl.cons (Spl.cons (Spl.cons (Spl.cons (Spl.cons (Spl.cons (Spl.cons (Spl.cons (Spl.cons (Spl.cons (Spl.cons Spl.nil)))))))))))))) | exact (Spl.cons (Spl.cons (Spl.cons (Spl.cons (Spl.cons (Spl.cons (Spl.cons (Spl.cons (Spl.cons (Spl.cons (Spl.cons (Spl.cons (Spl.cons (Spl.cons (Spl.cons Spl.nil))))))))))))))) | exact (Spl.cons (Spl.cons (Spl.cons (Spl.cons (Spl.cons (Spl.cons (Spl.cons (Spl.cons (Spl.cons (Spl.cons (Spl.cons (Spl.cons (Spl.cons (Spl.cons (Spl.cons (Spl.cons Spl.nil)))))))))))))))) | exact (Spl.cons (Spl.cons (Spl.cons (Spl.cons (Spl.cons (Spl.cons (Spl.cons (Spl.cons (Spl.cons (Spl.cons (Spl.cons (Spl.cons (Spl.cons (Spl.cons (Spl.cons (Spl.cons (Spl.cons Spl.nil))))))))))))))))) | exact (Spl.cons (Spl.cons (Spl.cons (Spl.cons (Spl.cons (Spl.cons (Spl.cons (Spl.cons (Spl.cons (Spl.cons (Spl.cons (Spl.cons (Spl.cons (Spl.cons (Spl.cons (Spl.cons (Spl.cons (Spl.cons Spl.nil)))))))))))))))))) | exact (Spl.cons (Spl.cons (Spl.cons (Spl.cons (Spl.cons (Spl.cons (Spl.cons (Spl.cons (Spl.cons (Spl.cons (Spl.cons (Spl.cons (Spl.cons (Spl.cons (Spl.cons (Spl.cons (Spl.cons (Spl.cons (Spl.cons Spl.nil))))))))))))))))))) | exact (Spl.cons (Spl.cons (Spl.cons (Spl.cons (Spl.cons (Spl.cons (Spl.cons (Spl.cons (Spl.cons (Spl.cons (Spl.cons (Spl.cons (Spl.cons (Spl.cons (Spl.cons (Spl.cons (Spl.cons (Spl.cons (Spl.cons (Spl.cons Spl.nil)))))))))))))))))))) | exact (Spl.cons (Spl.cons (Spl.cons (Spl.cons (Spl.cons (Spl.cons (Spl.cons (Spl.cons (Spl.cons (Spl.cons (Spl.cons (Spl.cons (Spl.cons (Spl.cons (Spl.cons (Spl.cons (Spl.cons (Spl.cons (Spl.cons (Spl.cons (Spl.cons Spl.nil))))))))))))))))))))))))) (by assumption) ?_; (intro t9 h9 tk9 F9 N9); (try k_sweep); (try dsimp only); (try k_fold))))
  k_with "call ref" => (k_here; (with_reducible show wpAny _ _ (call (Value.ref 822) _) _ _ _); k_dflt ((refine' probe_wait_ok _ _ _ _ _ _ _ _ _ _ _ _ _ _ _ _ _ _ _ _ _ _ _ _ _ _ _ _ _ _ _ _ _ _ _ _ _ _ (by k_asm) (by k_asm) (by k_asm) (by k_asm) (by k_asm) (by first | exact rfl | assumption) (by ktr_room) (by k_mem) (by k_mem) (by (refine' kpS6 ?_ (by assumption); k_extra "data"; (focus (first | exact (Spl.cons Spl.nil) | exact (Spl.cons (Spl.cons Spl.nil)) | exact (Spl.cons (Spl.cons (Spl.cons Spl.nil))) | exact (Spl.cons (Spl.cons (Spl.cons (Spl.cons Spl.nil)))) | exact (Spl.cons (Spl.cons (Spl.cons (Spl.cons (Spl.cons Spl.nil))))) | exact (Spl.cons (Spl.cons (Spl.cons (Spl.cons (Spl.cons (Spl.cons Spl.nil)))))) | exact (Spl.cons (Spl.cons (Spl.cons (Spl.cons (Spl.cons (Spl.cons (Spl.cons Spl.nil))))))) | exact (Spl.cons (Spl.cons (Spl.cons (Spl.cons (Spl.cons (Spl.cons (Spl.cons (Spl.cons Spl.nil)))))))) | exact (Spl.cons (Spl.cons (Spl.cons (Spl.cons (Spl.cons (Spl.cons (Spl.cons (Spl.cons (Spl.cons Spl.nil))))))))) | exact (Spl.cons (Spl.cons (Spl.cons (Spl.cons (Spl.cons (Spl.cons (Spl.cons (Spl.cons (Spl.cons (Spl.cons Spl.nil)))))))))) | exact (Spl.cons (Spl.cons (Spl.cons (Spl.cons (Spl.cons (Spl.cons (Spl.cons (Spl.cons (Spl.cons (Spl.cons (Spl.cons Spl.nil))))))))))) | exact (Spl.cons (Spl.cons (Spl.cons (Spl.cons (Spl.cons (Spl.cons (Spl.cons (Spl.cons (Spl.cons (Spl.cons (Spl.cons (Spl.cons Spl.nil)))))))))))) | exact (Spl.cons (Spl.cons (Spl.cons (Spl.cons (Spl.cons (Spl.cons (Spl.cons (Spl.cons (Spl.cons (Spl.cons (Spl.cons (Spl.cons (Spl.cons Spl.nil))))))))))))) | exact (Spl.cons (Spl.cons (Spl.cons (Spl.cons (Spl.cons (Spl.cons (Spl.cons (Spl.cons (Spl.cons (Spl.cons (Spl.cons (Spl.cons (Spl.cons (Spl.cons Spl.nil)))))))))))))) | exact (Spl.cons (Spl.cons (Spl.cons (Spl.cons (Spl.cons (Spl.cons (Spl.cons (Spl.cons (Spl.cons (Spl.cons (Spl.cons (Spl.cons (Spl.cons (Spl.cons (Spl.cons Spl.nil))))))))))))))) | exact (Spl.cons (Spl.cons (Spl.cons (Spl.cons (Spl.cons (Spl.cons (Spl.cons (Spl.cons (Spl.cons (Spl.cons (Spl.cons (Spl.cons (Spl.cons (Spl.cons (Spl.cons (Spl.cons Spl.nil)))))))))))))))) | exact (Spl.cons (Spl.cons (Spl.cons (Spl.cons (Spl.cons (Spl.cons (Spl.cons (Spl.cons (Spl.cons (Spl.cons (Spl.cons (Spl.cons (Spl.cons (Spl.cons (Spl.cons (Spl.cons (Spl.cons Spl.nil))))))))))))))))) | exact (Spl.cons (Spl.cons (Spl.cons (Spl.cons (Spl.cons (Spl.cons (Spl.cons (Spl.cons (Spl.cons (Spl.cons (Spl.cons (Spl.cons (Spl.cons (Spl.cons (Spl.cons (Spl.cons (Spl.cons (Spl.cons Spl.nil)))))))))))))))))) | exact (Spl.cons (Spl.cons (Spl.cons (Spl.cons (Spl.cons (Spl.cons (Spl.cons (Spl.cons (Spl.cons (Spl.cons (Spl.cons (Spl.cons (Spl.cons (Spl.cons (Spl.cons (Spl.cons (Spl.cons (Spl.cons (Spl.cons Spl.nil))))))))))))))))))) | exact (Spl.cons (Spl.cons (Spl.cons (Spl.cons (Spl.cons (Spl.cons (Spl.cons (Spl.cons (Spl.cons (Spl.cons (Spl.cons (Spl.cons (Spl.cons (Spl.cons (Spl.cons (Spl.cons (Spl.cons (Spl.cons (Spl.cons (Spl.cons Spl.nil)))))))))))))))))))) | exact (Spl.cons (Spl.cons (Spl.cons (Spl.cons (Spl.cons (Spl.cons (Spl.cons (Spl.cons (Spl.cons (Spl.cons (Spl.cons (Spl.cons (Spl.cons (Spl.cons (Spl.cons (Spl.cons (Spl.cons (Spl.cons (Spl.cons (Spl.cons (Spl.cons Spl.nil))))))))))))))))))))))))) (by (refine' kpS7 ?_ (by assumption); k_extra "data"; (focus (first | exact (Spl.cons Spl.nil) | exact (Spl.cons (Spl.cons Spl.nil)) | exact (Spl.cons (Spl.cons (Spl.cons Spl.nil))) | exact (Spl.cons (Spl.cons (Spl.cons (Spl.cons Spl.nil)))) | exact (Spl.cons (Spl.cons (Spl.cons (Spl.cons (Spl.cons Spl.nil))))) | exact (Spl.cons (Spl.cons (Spl.cons (Spl.cons (Spl.cons (Spl.cons Spl.nil)))))) | exact (Spl.cons (Spl.cons (Spl.cons (Spl.cons (Spl.cons (Spl.cons (Spl.cons Spl.nil))))))) | exact (Spl.cons (Spl.cons (Spl.cons (Spl.cons (Spl.cons (Spl.cons (Spl.cons (Spl.cons Spl.nil)))))))) | exact (Spl.cons (Spl.cons (Spl.cons (Spl.cons (Spl.cons (Spl.cons (Spl.cons (Spl.cons (Spl.cons Spl.nil))))))))) | exact (Spl.cons (Spl.cons (Spl.cons (Spl.cons (Spl.cons (Spl.cons (Spl.cons (Spl.cons (Spl.cons (Spl.cons Spl.nil)))))))))) | exact (Spl.cons (Spl.cons (Spl.cons (Spl.cons (Spl.cons (Spl.cons (Spl.cons (Spl.cons (Spl.cons (Spl.cons (Spl.cons Spl.nil))))))))))) | exact (Spl.cons (Spl.cons (Spl.cons (Spl.cons (Spl.cons (Spl.cons (Spl.cons (Spl.cons (Spl.cons (Spl.cons (Spl.cons (Spl.cons Spl.nil)))))))))))) | exact (Spl.cons (Spl.cons (Spl.cons (Spl.cons (Spl.cons (Spl.cons (Spl.cons (Spl.cons (Spl.cons (Spl.cons (Spl.cons (Spl.cons (Spl.cons Spl.nil))))))))))))) | exact (Spl.cons (Spl.cons (Spl.cons (Spl.cons (Spl.cons (Spl.cons (Spl.cons (Spl.cons (Spl.cons (Spl.cons (Spl.cons (Spl.cons (Spl.cons (Spl.cons Spl.nil)))))))))))))) | exact (Spl.cons (Spl.cons (Spl.cons (Spl.cons (Spl.cons (Spl.cons (Spl.cons (Spl.cons (Spl.cons (Spl.cons (Spl.cons (Spl.cons (Spl.cons (Spl.cons (Spl.cons Spl.nil))))))))))))))) | exact (Spl.cons (Spl.cons (Spl.cons (Spl.cons (Spl.cons (Spl.cons (Spl.cons (Spl.cons (Spl.cons (Spl.cons (Spl.cons (Spl.cons (Spl.cons (Spl.cons (Spl.cons (Spl.cons Spl.nil)))))))))))))))) | exact (Spl.cons (Spl.cons (Spl.cons (Spl.cons (Spl.cons (Spl.cons (Spl.cons (Spl.cons (Spl.cons (Spl.cons (Spl.cons (Spl.cons (Spl.cons (Spl.cons (Spl.cons (Spl.cons (Spl.cons Spl.nil))))))))))))))))) | exact (Spl.cons (Spl.cons (Spl.cons (Spl.cons (Spl.cons (Spl.cons (Spl.cons (Spl.cons (Spl.cons (Spl.cons (Spl.cons (Spl.cons (Spl.cons (Spl.cons (Spl.cons (Spl.cons (Spl.cons (Spl.cons Spl.nil)))))))))))))))))) | exact (Spl.cons (Spl.cons (Spl.cons (Spl.cons (Spl.cons (Spl.cons (Spl.cons (Spl.cons (Spl.cons (Spl.cons (Spl.cons (Spl.cons (Spl.cons (Spl.cons (Spl.cons (Spl.cons (Spl.cons (Spl.cons (Spl.cons Spl.nil))))))))))))))))))) | exact (Spl.cons (Spl.cons (Spl.cons (Spl.cons (Spl.cons (Spl.cons (Spl.cons (Spl.cons (Spl.cons (Spl.cons (Spl.cons (Spl.cons (Spl.cons (Spl.cons (Spl.cons (Spl.cons (Spl.cons (Spl.cons (Spl.cons (Spl.cons Spl.nil)))))))))))))))))))) | exact (Spl.cons (Spl.cons (Spl.cons (Spl.cons (Spl.cons (Spl.cons (Spl.cons (Spl.cons (Spl.cons (Spl.cons (Spl.cons (Spl.cons (Spl.cons (Spl.cons (Spl.cons (Spl.cons (Spl.cons (Spl.cons (Spl.cons (Spl.cons (Spl.cons Spl.nil))))))))))))))))))))))))) (by (refine' kpS8 ?_ (by assumption); k_extra "data"; (focus (first | exact (Spl.cons Spl.nil) | exact (Spl.cons (Spl.cons Spl.nil)) | exact (Spl.cons (Spl.cons (Spl.cons Spl.nil))) | exact (Spl.cons (Spl.cons (Spl.cons (Spl.cons Spl.nil)))) | exact (Spl.cons (Spl.cons (Spl.cons (Spl.cons (Spl.cons Spl.nil))))) | exact (Spl.cons (Spl.cons (Spl.cons (Spl.cons (Spl.cons (Spl.cons Spl.nil)))))) | exact (Spl.cons (Spl.cons (Spl.cons (Spl.cons (Spl.cons (Spl.cons (Spl.cons Spl.nil))))))) | exact (Spl.cons (Spl.cons (Spl.cons (Spl.cons (Spl.cons (Spl.cons (Spl.cons (Spl.cons Spl.nil)))))))) | exact (Spl.cons (Spl.cons (Spl.cons (Spl.cons (Spl.cons (Spl.cons (Spl.cons (Spl.cons (Spl.cons Spl.nil))))))))) | exact (Spl.cons (Spl.cons (Spl.cons (Spl.cons (Spl.cons (Spl.cons (Spl.cons (Spl.cons (Spl.cons (Spl.cons Spl.nil)))))))))) | exact (Spl.cons (Spl.cons (Spl.cons (Spl.cons (Spl.cons (Spl.cons (Spl.cons (Spl.cons (Spl.cons (Spl.cons (Spl.cons Spl.nil))))))))))) | exact (Spl.cons (Spl.cons (Spl.cons (Spl.cons (Spl.cons (Spl.cons (Spl.cons (Spl.cons (Spl.cons (Spl.cons (Spl.cons (Spl.cons Spl.nil)))))))))))) | exact (Spl.cons (Spl.cons (Spl.cons (Spl.cons (Spl.cons (Spl.cons (Spl.cons (Spl.cons (Spl.cons (Spl.cons (Spl.cons (Spl.cons (Spl.cons Spl.nil))))))))))))) | exact (Spl.cons (Spl.cons (Spl.cons (Spl.cons (Spl.cons (Spl.cons (Spl.cons (Spl.cons (Spl.cons (Spl.cons (Spl.cons (Spl.cons (Spl.cons (Spl.cons Spl.nil)))))))))))))) | exact (Spl.cons (Spl.cons (Spl.cons (Spl.cons (Spl.cons (Spl.cons (Spl.cons (Spl.cons (Spl.cons (Spl.cons (Spl.cons (Spl.cons (Spl.cons (Spl.cons (Spl.cons Spl.nil))))))))))))))) | exact (Spl.cons (Spl.cons (Spl.cons (Spl.cons (Spl.cons (Spl.cons (Spl.cons (Spl.cons (Spl.cons (Spl.cons (Spl.cons (Spl.cons (Spl.cons (Spl.cons (Spl.cons (Spl.cons Spl.nil)))))))))))))))) | exact (Spl.cons (Spl.cons (Spl.cons (Spl.cons (Spl.cons (Spl.cons (Spl.cons (Spl.cons (Spl.cons (Spl.cons (Spl.cons (Spl.cons (Spl.cons (Spl.cons (Spl.cons (Spl.cons (Spl.cons Spl.nil))))))))))))))))) | exact (Spl.cons (Spl.cons (Spl.cons (Spl.cons (Spl.cons (Spl.cons (Spl.cons (Spl.cons (Spl.cons (Spl.cons (Spl.cons (Spl.cons (Spl.cons (Spl.cons (Spl.cons (Spl.cons (Spl.cons (Spl.cons Spl.nil)))))))))))))))))) | exact (Spl.cons (Spl.cons (Spl.cons (Spl.cons (Spl.cons (Spl.cons (Spl.cons (Spl.cons (Spl.cons (Spl.cons (Spl.cons (Spl.cons (Spl.cons (Spl.cons (Spl.cons (Spl.cons (Spl.cons (Spl.cons (Spl.cons Spl.nil))))))))))))))))))) | exact (Spl.cons (Spl.cons (Spl.cons (Spl.cons (Spl.cons (Spl.cons (Spl.cons (Spl.cons (Spl.cons (Spl.cons (Spl.cons (Spl.cons (Spl.cons (Spl.cons (Spl.cons (Spl.cons (Spl.cons (Spl.cons (Spl.cons (Spl.cons Spl.nil)))))))))))))))))))) | exact (Spl.cons (Spl.cons (Spl.cons (Spl.cons (Spl.cons (Spl.cons (Spl.cons (Spl.cons (Spl.cons (Spl.cons (Spl.cons (Spl.cons (Spl.cons (Spl.cons (Spl.cons (Spl.cons (Spl.cons (Spl.cons (Spl.cons (Spl.cons (Spl.cons Spl.nil))))))))))))))))))))))))) (by (refine' kpS9 ?_ (by assumption); k_extra "data"; (focus (first | exact (Spl.cons Spl.nil) | exact (Spl.cons (Spl.cons Spl.nil)) | exact (Spl.cons (Spl.cons (Spl.cons Spl.nil))) | exact (Spl.cons (Spl.cons (Spl.cons (Spl.cons Spl.nil)))) | exact (Spl.cons (Spl.cons (Spl.cons (Spl.cons (Spl.cons Spl.nil))))) | exact (Spl.cons (Spl.cons (Spl.cons (Spl.cons (Spl.cons (Spl.cons Spl.nil)))))) | exact (Spl.cons (Spl.cons (Spl.cons (Spl.cons (Spl.cons (Spl.cons (Spl.cons Spl.nil))))))) | exact (Spl.cons (Spl.cons (Spl.cons (Spl.cons (Spl.cons (Spl.cons (Spl.cons (Spl.cons Spl.nil)))))))) | exact (Spl.cons (Spl.cons (Spl.cons (Spl.cons (Spl.cons (Spl.cons (Spl.cons (Spl.cons (Spl.cons Spl.nil))))))))) | exact (Spl.cons (Spl.cons (Spl.cons (Spl.cons (Spl.cons (Spl.cons (Spl.cons (Spl.cons (Spl.cons (Spl.cons Spl.nil)))))))))) | exact (Spl.cons (Spl.cons (Spl.cons (Spl.cons (Spl.cons (Spl.cons (Spl.cons (Spl.cons (Spl.cons (Spl.cons (Spl.cons Spl.nil))))))))))) | exact (Spl.cons (Spl.cons (Spl.cons (Spl.cons (Spl.cons (Spl.cons (Spl.cons (Spl.cons (Spl.cons (Spl.cons (Spl.cons (Spl.cons Spl.nil)))))))))))) | exact (Spl.cons (Spl.cons (Spl.cons (Spl.cons (Spl.cons (Spl.cons (Spl.cons (Spl.cons (Spl.cons (Spl.cons (Spl.cons (Spl.cons (Spl.cons Spl.nil))))))))))))) | exact (Spl.cons (Spl.cons (Spl.cons (Spl.cons (Spl.cons (Spl.cons (Spl.cons (Spl.cons (Spl.cons (Spl.cons (Spl.cons (Spl.cons (Spl.cons (Spl.cons Spl.nil)))))))))))))) | exact (Spl.cons (Spl.cons (Spl.cons (Spl.cons (Spl.cons (Spl.cons (Spl.cons (Spl.cons (Spl.cons (Spl.cons (Spl.cons (Spl.cons (Spl.cons (Spl.cons (Spl.cons Spl.nil))))))))))))))) | exact (Spl.cons (Spl.cons (Spl.cons (Spl.cons (Spl.cons (Spl.cons (Spl.cons (Spl.cons (Spl.cons (Spl.cons (Spl.cons (Spl.cons (Spl.cons (Spl.cons (Spl.cons (Spl.cons Spl.nil)))))))))))))))) | exact (Spl.cons (Spl.cons (Spl.cons (Spl.cons (Spl.cons (Spl.cons (Spl.cons (Spl.cons (Spl.cons (Spl.cons (Spl.cons (Spl.cons (Spl.cons (Spl.cons (Spl.cons (Spl.cons (Spl.cons Spl.nil))))))))))))))))) | exact (Spl.cons (Spl.cons (Spl.cons (Spl.cons (Spl.cons (Spl.cons (Spl.cons (Spl.cons (Spl.cons (Spl.cons (Spl.cons (Spl.cons (Spl.cons (Spl.cons (Spl.cons (Spl.cons (Spl.cons (Spl.cons Spl.nil)))))))))))))))))) | exact (Spl.cons (Spl.cons (Spl.cons (Spl.cons (Spl.cons (Spl.cons (Spl.cons (Spl.cons (Spl.cons (Spl.cons (Spl.cons (Spl.cons (Spl.cons (Spl.cons (Spl.cons (Spl.cons (Spl.cons (Spl.cons (Spl.cons Spl.nil))))))))))))))))))) | exact (Spl.cons (Spl.cons (Spl.cons (Spl.cons (Spl.cons (Spl.cons (Spl.cons (Spl.cons (Spl.cons (Spl.cons (Spl.cons (Spl.cons (Spl.cons (Spl.cons (Spl.cons (Spl.cons (Spl.cons (Spl.cons (Spl.cons (Spl.cons Spl.nil)))))))))))))))))))) | exact (Spl.cons (Spl.cons (Spl.cons (Spl.cons (Spl.cons (Spl.cons (Spl.cons (Spl.cons (Spl.cons (Spl.cons (Spl.cons (Spl.cons (Spl.cons (Spl.cons (Spl.cons (Spl.cons (Spl.cons (Spl.cons (Spl.cons (Spl.cons (Spl.cons Spl.nil))))))))))))))))))))))))) (by assumption) (by assumption) ?_; (intro t9 h9 tk9 F9 N9); (try k_sweep); (try dsimp only); (try k_fold))))
  exact True.intro
set_option maxRecDepth 100000 in
set_option maxHeartbeats 8000000 in
theorem keep_timers_ok {w : World} {mean : ExcName → Option Value} {mg mb : Str → Option Value} (dp un : Nat) (gd : Option (List Code)) (cn : Str) (cs : Scope) (a : Addr) (ccd : Value) (cl : List (Str × Addr)) (outer : List Env) (A₀ : Around) (base h₀ : Heap) (L : Addr) (m : Str → Option Value) (s : Shared) (Q E : Value → Shared → Prop)
    (k : Nat → Tok) (snd sd pe qu : Addr) (ui nx gr : Int) (syn fin : Bool) (pd : Addr) (win mo : Int) (qd : Addr) (bs : Array UInt8) (clk cd est : Addr) (tries : Int) (ed : Addr) (tcb td li lo re rc cg ak : Addr) (st : Str) (ts : Tok) (pr : Int) (tp : Tok) (whl wd sl lt en : Addr) (gv : Int) (tg : Tok) (tm : Int → Option Int) (bd : Nat) (prv : List (Addr × Obj)) (now : Int) (tn : Tok)
    (B : Below A₀ base outer h₀) (F : Fr h₀ L s.heap m) (X : (Tr.pre.heap_1_39 w.params).In h₀) (N : News h₀ L s.heap ((tcb, instObj 804 td) :: (td, oT w.params k li lo re snd rc clk cg ak whl st ts pr tp) :: prv))
    (T : Top Tr.pre.view_1_40 (looseW Tr.pre.view_1_40 [Str.ofString "Sender", Str.ofString "Tcb"]) mean mg mb h₀) (hk : cs.kind = .function)
    (hdp : dp + 10 < recursionLimit) (m0 : (whl, instObj 740 wd) ∈ prv) (m1 : (wd, oW w.params k sl lt en gv tg) ∈ prv) (WS : WSt whl wd sl lt en) (W : WI w whl wd sl lt en tm bd (kpL w.params k snd sd pe qu ui nx gr syn fin pd win mo qd bs clk cd est tries ed) prv) (off : OwnOff prv [tcb, td]) (hbd : bd ≤ 900) (dtt : @Ne Nat td tcb) (hs : bs.size ≤ 40) (hw : 0 ≤ win) (htr : tries = 0 ∨ tries = 1 ∨ tries = 2) (hp0 : 0 ≤ pr) (hp1 : pr < 8)
    (hret : ∀ prv2 tp2 gv2 tg2 h' tk', (whl, instObj 740 wd) ∈ prv2 → (wd, oW w.params k sl lt en gv2 tg2) ∈ prv2 → WI w whl wd sl lt en (kT (acts st) (decide (((nx - ui).fmod 256) = 0)) (sends st && np syn fin ((nx - ui).fmod 256) bs.size win mo) tm (now + wt tries) (now + pw pr)) (bd + 2) (kpL w.params k snd sd pe qu ui nx gr syn fin pd win mo qd bs clk cd est tries ed) prv2 → OwnOff prv2 [tcb, td] → KeepBut s.heap h' (tcb :: td :: prv.map (·.1)) → NewOr s.heap (tcb :: td :: prv.map (·.1)) ((tcb, instObj 804 td) :: (td, oT w.params k li lo re snd rc clk cg ak whl st ts (kP (acts st) (sends st && np syn fin ((nx - ui).fmod 256) bs.size win mo) pr) tp2) :: prv2) → Fr h₀ L h' m → News h₀ L h' ((tcb, instObj 804 td) :: (td, oT w.params k li lo re snd rc clk cg ak whl st ts (kP (acts st) (sends st && np syn fin ((nx - ui).fmod 256) bs.size win mo) pr) tp2) :: prv2) → Q .none { s with heap := h', toks := tk' }) :
    wpAny (model Challenge.rw_xw0347_01.row.prog w) (ktrTop dp un gd cn cs L a ccd cl outer) (call (.ref 815) [.ref tcb, .int now tn]) Q E s := by
  revert X; k_fill; intro X
  refine wpAny_call ?_
  k_dflt (refine' code_defF ?k1 ?k2 ?k3 ?k4 ?k5 ?kA ?kF ?kK ?k6 ?k7 ?k8 ?k9 ?kB ?_ ?c2 ?c3 ?c4 ?c5; (case kA => exact rfl); (case kF => exact rfl); (case kK => assumption); (case k1 => k_asm); (case k2 => k_asm); (case k3 => k_asm); (case k4 => k_asm); (case k5 => k_asm); (case k6 => k_is); (case k7 => k_is); (case k8 => ktr_room); (case k9 => exact BindsTo.of_eq rfl); (case c5 => decide); (case kB => exact locs rfl); (case c2 => exact rfl); (case c3 => exact rfl); (case c4 => exact rfl); k_whole)
  intro g0 L0 h0 FG0 F0 N0 B0 X0 T0 hg
  (try dsimp only)
  (try k_fold)
  refine execs_hold ?_
  k_steps
  · have hA : acts st = false := ac_f (by assumption)
    rw [kP_not hA, kT_not hA] at hret
    (refine' hret _ _ _ _ _ _ ?m0 ?m1 ?W ?O ?kb ?nw ?F ?N; (case W => exact WI.mono (by assumption) (by omega)); (case m0 => assumption); (case m1 => assumption); (case O => first | assumption | exact own_tl (by assumption) | exact own_tl (own_tl (by assumption)) | exact own_tl (own_tl (own_tl (by assumption)))); (case F => k_asm); (case N => first | k_asm | (refine' news_tl ?z1; (case z1 => k_asm)) | (refine' news_tl (news_tl ?z1); (case z1 => k_asm)) | (refine' news_tl (news_tl (news_tl ?z1)); (case z1 => k_asm))); (case kb => refine' (frame_end (g := g0) (L' := L0) (foot := []) ?fe1 ?fe2 (fun _ hq => nomatch hq) hg).1; (case fe1 => assumption); (case fe2 => assumption)); (case nw => refine' (frame_end (g := g0) (L' := L0) ?fe1 ?fe2 ?fe3 hg).2; (case fe1 => assumption); (case fe2 => assumption); (case fe3 => first | exact fun _ hq => hq | exact fun _ hq => List.Mem.tail _ hq | exact fun _ hq => List.Mem.tail _ (List.Mem.tail _ hq) | exact fun _ hq => List.Mem.tail _ (List.Mem.tail _ (List.Mem.tail _ hq)))))
  · have hA : acts st = true := ac_t (by assumption)
    rw [kT_act hA] at hret
    unfold Hold
    with_reducible rename Fr _ _ _ _ => F1
    refine execs_cutP F1 (fun mm s' => (∀ R9 : Prop, (∀ (h1 : Heap) (tk1 : Nat) (prv1 : List (Addr × Obj)) (gv1 : Int) (tg1 : Tok), s' = { s with heap := h1, toks := tk1 } → Fr g0 L0 h1 mm → News g0 L0 h1 ((tcb, instObj 804 td) :: (td, oT w.params k li lo re snd rc clk cg ak whl st ts pr tp) :: prv1) → (whl, instObj 740 wd) ∈ prv1 → (wd, oW w.params k sl lt en gv1 tg1) ∈ prv1 → WI w whl wd sl lt en (kA (decide (((nx - ui).fmod 256) = 0)) tm (now + wt tries)) (bd + 1) (kpL w.params k snd sd pe qu ui nx gr syn fin pd win mo qd bs clk cd est tries ed) prv1 → OwnOff prv1 [tcb, td] → R9) → R9)) (fun P9 hP9 => ?_) ?_
    · k_steps
      all_goals unfold StopAt
      all_goals refine' hP9 _ ?_
      all_goals (intro R9 k9; refine' k9 _ _ _ _ _ rfl ?F ?N ?m0 ?m1 ?W ?O; (case W => (first | rw [kA_del (by assumption)] | rw [kA_put (by assumption) (by assumption)] | rw [kA_old (by assumption) (by assumption)]); exact WI.mono (by assumption) (by omega)); (case m0 => assumption); (case m1 => assumption); (case O => first | assumption | exact own_tl (by assumption) | exact own_tl (own_tl (by assumption)) | exact own_tl (own_tl (own_tl (by assumption)))); (case F => k_asm); (case N => first | k_asm | (refine' news_tl ?z1; (case z1 => k_asm)) | (refine' news_tl (news_tl ?z1); (case z1 => k_asm)) | (refine' news_tl (news_tl (news_tl ?z1)); (case z1 => k_asm))))
    · rintro s' M9; refine M9 _ ?_; clear M9; rintro h1 tk1 prv1 gv1 tg1 rfl F2 N2 n0 n1 W1 O1
      clear W m0 m1 off
      k_steps
      all_goals (first
        | (have hB : (sends st && np syn fin ((nx - ui).fmod 256) bs.size win mo) = true := pb_1 (by assumption) (by assumption); rw [kP_act hA hB] at hret; first | rw [kB_put hB (by assumption)] at hret | rw [kB_old hB (by assumption)] at hret)
        | (have hB : (sends st && np syn fin ((nx - ui).fmod 256) bs.size win mo) = false := pb_0 (by assumption); rw [kP_zero hA hB, kB_del hB] at hret)
        | (have hB : (sends st && np syn fin ((nx - ui).fmod 256) bs.size win mo) = false := pb_n (by assumption); rw [kP_zero hA hB, kB_del hB] at hret))
      all_goals (refine' hret _ _ _ _ _ _ ?m0 ?m1 ?W ?O ?kb ?nw ?F ?N; (case W => exact WI.mono (by assumption) (by omega)); (case m0 => assumption); (case m1 => assumption); (case O => first | assumption | exact own_tl (by assumption) | exact own_tl (own_tl (by assumption)) | exact own_tl (own_tl (own_tl (by assumption)))); (case F => k_asm); (case N => first | k_asm | (refine' news_tl ?z1; (case z1 => k_asm)) | (refine' news_tl (news_tl ?z1); (case z1 => k_asm)) | (refine' news_tl (news_tl (news_tl ?z1)); (case z1 => k_asm))); (case kb => refine' (frame_end (g := g0) (L' := L0) (foot := []) ?fe1 ?fe2 (fun _ hq => nomatch hq) hg).1; (case fe1 => assumption); (case fe2 => assumption)); (case nw => refine' (frame_end (g := g0) (L' := L0) ?fe1 ?fe2 ?fe3 hg).2; (case fe1 => assumption); (case fe2 => assumption); (case fe3 => first | exact fun _ hq => hq | exact fun _ hq => List.Mem.tail _ hq | exact fun _ hq => List.Mem.tail _ (List.Mem.tail _ hq) | exact fun _ hq => List.Mem.tail _ (List.Mem.tail _ (List.Mem.tail _ hq)))))
end
-- T5b
section
theorem norowsT5b : True := by
  k_with_none
  exact True.intro
def AllNe (a : Addr) : List Addr → Prop
  | [] => True
  | b :: l => @Ne Nat a b ∧ AllNe a l
theorem AllNe.ne {a : Addr} : ∀ {l : List Addr}, AllNe a l → ∀ b ∈ l, @Ne Nat a b
  | _ :: _, h, b, hb => by
    rcases List.mem_cons.mp hb with rfl | hb
    · exact h.1
    · exact AllNe.ne h.2 b hb
theorem tail_after {h₀ h h' : Heap} {L : Addr} {news loc tl tl' : List (Addr × Obj)} (N : News h₀ L h news) (sp : Spl tl news loc) (off : OwnOff tl (loc.map (·.1))) (kb : KeepBut h h' (tl.map (·.1))) (nw : NewOr h (tl.map (·.1)) tl') (N' : News h₀ L h' tl') :
    News h₀ L h' (loc ++ tl') ∧ OwnOff tl' (loc.map (·.1)) := by
  have e := sp.eq
  subst e
  refine ⟨fun p hp => ?_, fun q hq b hb e => ?_⟩
  · rcases List.mem_append.mp hp with hp | hp
    · have z := N p (List.mem_append_left _ hp)
      refine ⟨kb _ _ z.1 fun hm => ?_, z.2⟩
      obtain ⟨q, hq, e⟩ := List.mem_map.mp hm
      exact off q hq _ (List.mem_map_of_mem hp) e
    · exact N' p hp
  · obtain ⟨p, hp, rfl⟩ := List.mem_map.mp hb
    rcases nw q hq with hm | hn
    · obtain ⟨u, hu, e'⟩ := List.mem_map.mp hm
      exact off u hu _ (List.mem_map_of_mem hp) (e'.trans e)
    · have z := (N p (List.mem_append_left _ hp)).1
      rw [← e, hn] at z
      cases z
theorem off_two {prv : List (Addr × Obj)} {p q : Addr × Obj} {l : List Addr} (a1 : AllNe p.1 l) (a2 : AllNe q.1 l) (off : OwnOff prv l) : OwnOff (p :: q :: prv) l := fun x hx b hb => by
  rcases List.mem_cons.mp hx with rfl | hx
  · exact a1.ne b hb
  · rcases List.mem_cons.mp hx with rfl | hx
    · exact a2.ne b hb
    · exact off x hx b hb
theorem keepW {w : World} {mean : ExcName → Option Value} {mg mb : Str → Option Value} (dp un : Nat) (gd : Option (List Code)) (cn : Str) (cs : Scope) (a : Addr) (ccd : Value) (cl : List (Str × Addr)) (outer : List Env) (A₀ : Around) (base h₀ : Heap) (L : Addr) (m : Str → Option Value) (s : Shared) (Q E : Value → Shared → Prop)
    (k : Nat → Tok) (snd sd pe qu : Addr) (ui nx gr : Int) (syn fin : Bool) (pd : Addr) (win mo : Int) (qd : Addr) (bs : Array UInt8) (clk cd est : Addr) (tries : Int) (ed : Addr) (tcb td li lo re rc cg ak : Addr) (st : Str) (ts : Tok) (pr : Int) (tp : Tok) (whl wd sl lt en : Addr) (gv : Int) (tg : Tok) (tm : Int → Option Int) (bd : Nat) (prv : List (Addr × Obj)) (now : Int) (tn : Tok) (news loc : List (Addr × Obj))
    (B : Below A₀ base outer h₀) (F : Fr h₀ L s.heap m) (X : (Tr.pre.heap_1_39 w.params).In h₀) (N : News h₀ L s.heap news)
    (T : Top Tr.pre.view_1_40 (looseW Tr.pre.view_1_40 [Str.ofString "Sender", Str.ofString "Tcb"]) mean mg mb h₀) (hk : cs.kind = .function) (hdp : dp + 10 < recursionLimit) (sp : Spl ((tcb, instObj 804 td) :: (td, oT w.params k li lo re snd rc clk cg ak whl st ts pr tp) :: prv) news loc) (m0 : (whl, instObj 740 wd) ∈ prv) (m1 : (wd, oW w.params k sl lt en gv tg) ∈ prv) (WS : WSt whl wd sl lt en) (W : WI w whl wd sl lt en tm bd (kpL w.params k snd sd pe qu ui nx gr syn fin pd win mo qd bs clk cd est tries ed) prv) (off : OwnOff prv (loc.map (·.1))) (offT : OwnOff prv [tcb, td]) (a1 : AllNe tcb (loc.map (·.1))) (a2 : AllNe td (loc.map (·.1))) (hbd : bd ≤ 900) (dtt : @Ne Nat td tcb) (hs : bs.size ≤ 40) (hw : 0 ≤ win) (htr : tries = 0 ∨ tries = 1 ∨ tries = 2) (hp0 : 0 ≤ pr) (hp1 : pr < 8)
    (hret : ∀ prv2 tp2 gv2 tg2 h' tk', (whl, instObj 740 wd) ∈ prv2 → (wd, oW w.params k sl lt en gv2 tg2) ∈ prv2 → WI w whl wd sl lt en (kT (acts st) (decide (((nx - ui).fmod 256) = 0)) (sends st && np syn fin ((nx - ui).fmod 256) bs.size win mo) tm (now + wt tries) (now + pw pr)) (bd + 2) (kpL w.params k snd sd pe qu ui nx gr syn fin pd win mo qd bs clk cd est tries ed) prv2 → OwnOff prv2 [tcb, td] → OwnOff prv2 (loc.map (·.1)) → Fr h₀ L h' m → News h₀ L h' (loc ++ ((tcb, instObj 804 td) :: (td, oT w.params k li lo re snd rc clk cg ak whl st ts (kP (acts st) (sends st && np syn fin ((nx - ui).fmod 256) bs.size win mo) pr) tp2) :: prv2)) → Q .none { s with heap := h', toks := tk' }) :
    wpAny (model Challenge.rw_xw0347_01.row.prog w) (ktrTop dp un gd cn cs L a ccd cl outer) (call (.ref 815) [.ref tcb, .int now tn]) Q E s := by
  refine keep_timers_ok dp un gd cn cs a ccd cl outer A₀ base h₀ L m s Q E k snd sd pe qu ui nx gr syn fin pd win mo qd bs clk cd est tries ed tcb td li lo re rc cg ak st ts pr tp whl wd sl lt en gv tg tm bd prv now tn B F X (fun p hp => N p (sp.sub p hp)) T hk hdp m0 m1 WS W offT hbd dtt hs hw htr hp0 hp1 (fun prv2 tp2 gv2 tg2 h' tk' n0 n1 n2 n3 kb nw F' N' => ?_)
  obtain ⟨NN, OO⟩ := tail_after N sp (off_two a1 a2 off) kb nw N'
  exact hret prv2 tp2 gv2 tg2 h' tk' n0 n1 n2 n3 (fun p hp => OO p (.tail _ (.tail _ hp))) F' NN
/-! the plain law of the timers -/
noncomputable def tv (tm : Int → Option Int) (k : Int) : Int := (tm k).getD 0
noncomputable def orI (x y : Int) : Int := if x = 0 then y else x
noncomputable def d0S (ac : Bool) (x z : Int) (b : Bool) : Int := if ac = true then orI x z * (if b = true then 1 else 0) else x
def cS (ac : Bool) (p : Int) (b : Bool) : Int := if ac = true then p * (if b = true then 1 else 0) else p
noncomputable def lT1 (wm : Int → Option Int) (k x : Int) : Int → Option Int := if 0 < x then tmPut (tmDel wm k) k x else tmDel wm k
noncomputable def lT (wm : Int → Option Int) (x0 x1 : Int) : Int → Option Int := lT1 (lT1 wm 1 x0) 2 x1
theorem lT1_put {wm : Int → Option Int} {k x : Int} (h : 0 < x) : lT1 wm k x = tmPut (tmDel wm k) k x := if_pos h
theorem lT1_del {wm : Int → Option Int} {k x : Int} (h : ¬ 0 < x) : lT1 wm k x = tmDel wm k := if_neg h
theorem lT1_at {wm : Int → Option Int} {k x : Int} : lT1 wm k x k = if 0 < x then some x else none := by unfold lT1; split <;> simp [tmPut, tmDel]
theorem lT1_off {wm : Int → Option Int} {k j x : Int} (h : j ≠ k) : lT1 wm k x j = wm j := by unfold lT1; split <;> simp [tmPut, tmDel, h]
theorem lT_1 {wm : Int → Option Int} {x0 x1 : Int} : lT wm x0 x1 1 = if 0 < x0 then some x0 else none := by unfold lT; rw [lT1_off (by decide), lT1_at]
theorem lT_2 {wm : Int → Option Int} {x0 x1 : Int} : lT wm x0 x1 2 = if 0 < x1 then some x1 else none := by unfold lT; rw [lT1_at]
theorem lT_hi {wm : Int → Option Int} {x0 x1 j : Int} (h1 : j ≠ 1) (h2 : j ≠ 2) : lT wm x0 x1 j = wm j := by unfold lT; rw [lT1_off h2, lT1_off h1]
theorem kA_1 {f : Bool} {tm : Int → Option Int} {a : Int} : kA f tm a 1 = if f = true then none else some ((tm 1).getD a) := by
  unfold kA
  cases f
  · simp only [Bool.false_eq_true, if_false]
    cases h : tm 1 <;> simp [tmPut, h]
  · simp [tmDel]
theorem kA_off {f : Bool} {tm : Int → Option Int} {a j : Int} (h : j ≠ 1) : kA f tm a j = tm j := by
  unfold kA
  cases f
  · simp only [Bool.false_eq_true, if_false]
    cases h' : tm 1 <;> simp [tmPut, h]
  · simp [tmDel, h]
theorem kB_2 {b : Bool} {tm : Int → Option Int} {a : Int} : kB b tm a 2 = if b = true then some ((tm 2).getD a) else none := by
  unfold kB
  cases b
  · simp [tmDel]
  · simp only [if_true]
    cases h : tm 2 <;> simp [tmPut, h]
theorem kB_off {b : Bool} {tm : Int → Option Int} {a j : Int} (h : j ≠ 2) : kB b tm a j = tm j := by
  unfold kB
  cases b
  · simp [tmDel, h]
  · simp only [if_true]
    cases h' : tm 2 <;> simp [tmPut, h]
theorem law_1 {ac f b : Bool} {wm : Int → Option Int} {x0 x1 a1 a2 : Int} (h0 : 0 ≤ x0) : tv (kT ac f b (lT wm x0 x1) a1 a2) 1 = d0S ac x0 a1 (!f) := by
  unfold tv d0S orI kT
  cases ac
  · simp only [Bool.false_eq_true, if_false]; rw [lT_1]; split <;> simp <;> omega
  · simp only [if_true]
    rw [kB_off (by decide), kA_1, lT_1]
    cases f
    · simp only [Bool.false_eq_true, if_false, Bool.not_false, if_true, Int.mul_one, Option.getD_some]
      by_cases h : 0 < x0
      · rw [if_pos h, if_neg (by omega)]; rfl
      · rw [if_neg h, if_pos (by omega)]; rfl
    · simp
theorem law_2 {ac f b : Bool} {wm : Int → Option Int} {x0 x1 a1 a2 : Int} (h0 : 0 ≤ x1) : tv (kT ac f b (lT wm x0 x1) a1 a2) 2 = d0S ac x1 a2 b := by
  unfold tv d0S orI kT
  cases ac
  · simp only [Bool.false_eq_true, if_false]; rw [lT_2]; split <;> simp <;> omega
  · simp only [if_true]
    rw [kB_2, kA_off (by decide), lT_2]
    cases b
    · simp
    · simp only [if_true, Int.mul_one, Option.getD_some]
      by_cases h : 0 < x1
      · rw [if_pos h, if_neg (by omega)]; rfl
      · rw [if_neg h, if_pos (by omega)]; rfl
theorem kT_hi {ac f b : Bool} {wm : Int → Option Int} {x0 x1 a1 a2 j : Int} (h1 : j ≠ 1) (h2 : j ≠ 2) : kT ac f b (lT wm x0 x1) a1 a2 j = wm j := by
  unfold kT
  cases ac
  · simp only [Bool.false_eq_true, if_false]; exact lT_hi h1 h2
  · simp only [if_true]; rw [kB_off h2, kA_off h1, lT_hi h1 h2]
theorem law_c {ac b : Bool} {p : Int} : kP ac b p = cS ac p b := by
  unfold kP cS
  cases ac <;> cases b <;> simp
end
-- T6
section
theorem ne_add {prv : List (Addr × Obj)} {d k : Nat} (h : AllLt d prv) : ∀ p ∈ prv, p.1 ≠ d + k := fun p hp => Nat.ne_of_lt (Nat.lt_of_lt_of_le (ktn_ltOf h p hp) (Nat.le_add_right d k))
theorem or_none {tm : Int → Option Int} {k : Int} (h : tm k = none) : (0 : Int) = tv tm k := by unfold tv; rw [h]; rfl
theorem or_some {tm : Int → Option Int} {k t : Int} (h : tm k = some t) : t = tv tm k := by unfold tv; rw [h]; rfl
theorem or_zero {tm : Int → Option Int} {k t : Int} (h : tm k = some t) (h0 : t = 0) : (0 : Int) = tv tm k := by unfold tv; rw [h, h0]; rfl
theorem orI_l {x y : Int} (h : x ≠ 0) : x = orI x y := (if_neg h).symm
theorem orI_r {x y : Int} (h : x = 0) : y = orI x y := (if_pos h).symm
def OrEnd (h₀ : Heap) (L : Addr) (m : Str → Option Value) (news : List (Addr × Obj)) (s : Shared) (v : Int) (r : Value) (s₂ : Shared) : Prop :=
  ∃ t h tk, r = .int v t ∧ s₂ = { s with heap := h, toks := tk } ∧ Fr h₀ L h m ∧ News h₀ L h news
theorem OrEnd.mk {h₀ : Heap} {L : Addr} {m : Str → Option Value} {news : List (Addr × Obj)} {s : Shared} {v x : Int} {t : Tok} {h : Heap} {tk : Nat} (e : x = v) (F : Fr h₀ L h m) (N : News h₀ L h news) : OrEnd h₀ L m news s v (.int x t) { s with heap := h, toks := tk } :=
  ⟨t, h, tk, by rw [e], rfl, F, N⟩
def BEnd (h₀ : Heap) (L : Addr) (m : Str → Option Value) (news : List (Addr × Obj)) (s : Shared) (v : Bool) (r : Value) (s₂ : Shared) : Prop :=
  ∃ h tk, r = .bool v ∧ s₂ = { s with heap := h, toks := tk } ∧ Fr h₀ L h m ∧ News h₀ L h news
theorem BEnd.mk {h₀ : Heap} {L : Addr} {m : Str → Option Value} {news : List (Addr × Obj)} {s : Shared} {v x : Bool} {h : Heap} {tk : Nat} (e : x = v) (F : Fr h₀ L h m) (N : News h₀ L h news) : BEnd h₀ L m news s v (.bool x) { s with heap := h, toks := tk } :=
  ⟨h, tk, by rw [e], rfl, F, N⟩
section
variable {M : Model} {A : Around} {E : Value → Shared → Prop} {Q : Value → Shared → Prop} {s : Shared} {h₀ : Heap} {L : Addr} {m : Str → Option Value} {news : List (Addr × Obj)} {c : Sem Value}
theorem or_join {v : Int} (hc : wpAny M A c (OrEnd h₀ L m news s v) E s) (hk : ∀ t h tk, Fr h₀ L h m → News h₀ L h news → Q (.int v t) { s with heap := h, toks := tk }) : wpAny M A c Q E s := by
  refine wpAny_mono hc (fun r s₂ hr => ?_) fun _ _ h => h
  obtain ⟨t, h, tk', rfl, rfl, F', N'⟩ := hr
  exact hk t h tk' F' N'
theorem or_cut {w : World} {whl wd sl lt en : Addr} {tm : Int → Option Int} {bd : Nat} {kp prv : List (Addr × Obj)} {k : Int} {tk : Tok} {mm : Str → Option Value}
    (_ : WI w whl wd sl lt en tm bd kp prv) (_ : mm (Str.ofString "key") = some (.int k tk)) (_ : Fr h₀ L s.heap m) (_ : News h₀ L s.heap news)
    (hc : wpAny M A c (OrEnd h₀ L m news s (tv tm k)) E s) (hk : ∀ t h tk, Fr h₀ L h m → News h₀ L h news → Q (.int (tv tm k) t) { s with heap := h, toks := tk }) : wpAny M A c Q E s := or_join hc hk
theorem or_t0 {ti : Addr} {x y : Int} {tx ty : Tok} {l : List Value} {n : Nat} {z : Str} (_ : Fr h₀ L s.heap m) (_ : News h₀ L s.heap news) (_ : m (Str.ofString "times") = some (.ref ti)) (_ : (ti, listOf (.int x tx :: l).toArray n) ∈ news) (_ : m z = some (.int y ty))
    (hc : wpAny M A c (OrEnd h₀ L m news s (orI x y)) E s) (hk : ∀ t h tk, Fr h₀ L h m → News h₀ L h news → Q (.int (orI x y) t) { s with heap := h, toks := tk }) : wpAny M A c Q E s := or_join hc hk
theorem or_t1 {ti : Addr} {x y : Int} {tx ty : Tok} {u : Value} {l : List Value} {n : Nat} {z : Str} (_ : Fr h₀ L s.heap m) (_ : News h₀ L s.heap news) (_ : m (Str.ofString "times") = some (.ref ti)) (_ : (ti, listOf (u :: .int x tx :: l).toArray n) ∈ news) (_ : m z = some (.int y ty))
    (hc : wpAny M A c (OrEnd h₀ L m news s (orI x y)) E s) (hk : ∀ t h tk, Fr h₀ L h m → News h₀ L h news → Q (.int (orI x y) t) { s with heap := h, toks := tk }) : wpAny M A c Q E s := or_join hc hk
theorem and_w1 {wi : Addr} {b : Bool} {u : Value} {l : List Value} {n : Nat} {st : Str} {ts : Tok} (_ : Fr h₀ L s.heap m) (_ : News h₀ L s.heap news) (_ : m (Str.ofString "wishes") = some (.ref wi)) (_ : (wi, listOf (u :: .bool b :: l).toArray n) ∈ news) (_ : m (Str.ofString "state") = some (.str st ts))
    (hc : wpAny M A c (BEnd h₀ L m news s (b && sends st)) E s) (hk : ∀ h tk, Fr h₀ L h m → News h₀ L h news → Q (.bool (b && sends st)) { s with heap := h, toks := tk }) : wpAny M A c Q E s := by
  refine wpAny_mono hc (fun r s₂ hr => ?_) fun _ _ h => h
  obtain ⟨h, tk', rfl, rfl, F', N'⟩ := hr
  exact hk h tk' F' N'
end
theorem bF {b x : Bool} (h : b = false) : false = (b && x) := by rw [h]; rfl
theorem bF' {b x : Bool} (h : b = false) : b = (b && x) := by rw [h]; rfl
theorem bT {b x : Bool} (h : b = true) : x = (b && x) := by rw [h]; rfl
section
variable {prog : Program} {w : World} {A : Around} {E : Value → Shared → Prop} {s : Shared} {h₀ : Heap} {L a b : Addr} {m : Str → Option Value} {news : List (Addr × Obj)} {vs ws : List Value} {n n2 : Nat} {Q : Value → Shared → Prop}
theorem add_LL (F : Fr h₀ L s.heap m) (N : News h₀ L s.heap news) (ha : (a, listOf vs.toArray n) ∈ news) (hb : (b, listOf ws.toArray n2) ∈ news) (hz : vs.length + ws.length ≤ sizeLine)
    (h : ∀ D h', Fr h₀ L h' m → News h₀ L h' ((D, listOf (vs ++ ws).toArray 0) :: news) → (∀ p ∈ news, p.1 < D) → Q (.ref D) { s with heap := h' }) : wpAny (model prog w) A (binaryOp .Add (.ref a) (.ref b)) Q E s :=
  add_lists F N (News.isList N ha) (News.isList N hb) (fun h' F' N' => h _ h' F' N' fun p hp => Heap.lt_size (N p hp).1) hz
end
theorem own_lnil {adr : List Addr} : OwnOff [] adr := fun _ h => nomatch h
theorem own_lcons {p : Addr × Obj} {l : List (Addr × Obj)} {adr : List Addr} (h1 : AllNe p.1 adr) (h2 : OwnOff l adr) : OwnOff (p :: l) adr := fun q hq b hb => by
  rcases List.mem_cons.mp hq with rfl | hq
  · exact h1.ne b hb
  · exact h2 q hq b hb
theorem unrW_end {h₀ : Heap} {L : Addr} {its : List (Addr × Obj)} {rest : (Str → Option Value) → List (Addr × Obj) → Prop} {s₁ : Shared} {h' : Heap} {tk : Nat} {m' : Str → Option Value} {news' : List (Addr × Obj)} (F : Fr h₀ L h' m') (N : News h₀ L h' (its ++ news'))
    (off : OwnOff news' (its.map (·.1))) (r : rest m' news') : UnrEndW h₀ L s₁ its rest { s₁ with heap := h', toks := tk } :=
  ⟨h', tk, m', news', rfl, F, N, fun p hp q hq => off p hp _ (List.mem_map_of_mem hq), r⟩
theorem over_fr {g h : Heap} {L : Addr} {m m' : Str → Option Value} (F : Fr g L h m') (e : ∀ y, y ≠ Str.ofString "key" → y ≠ Str.ofString "time" → m' y = m y) :
    Fr g L h (fun y => if y = Str.ofString "key" then m' y else if y = Str.ofString "time" then m' y else m y) := by
  have em : (fun y => if y = Str.ofString "key" then m' y else if y = Str.ofString "time" then m' y else m y) = m' := by
    funext y
    by_cases h1 : y = Str.ofString "key"
    · rw [if_pos h1]
    · rw [if_neg h1]
      by_cases h2 : y = Str.ofString "time"
      · rw [if_pos h2]
      · rw [if_neg h2]; exact (e y h1 h2).symm
  rw [em]; exact F
theorem over2_fr {g h : Heap} {L : Addr} {m m' : Str → Option Value} {vd vc : Value} (F : Fr g L h m') (hd : m' (Str.ofString "due") = some vd) (hc : m' (Str.ofString "count") = some vc)
    (e : ∀ y, y ≠ Str.ofString "due" → y ≠ Str.ofString "count" → y ≠ Str.ofString "is_probed" → y ≠ Str.ofString "again" → y ≠ Str.ofString "probe" → m' y = m y) :
    Fr g L h (fun y => if y = Str.ofString "due" then some vd else if y = Str.ofString "count" then some vc else if y = Str.ofString "is_probed" then m' y else if y = Str.ofString "again" then m' y else if y = Str.ofString "probe" then m' y else m y) := by
  have em : (fun y => if y = Str.ofString "due" then some vd else if y = Str.ofString "count" then some vc else if y = Str.ofString "is_probed" then m' y else if y = Str.ofString "again" then m' y else if y = Str.ofString "probe" then m' y else m y) = m' := by
    funext y
    by_cases h1 : y = Str.ofString "due"
    · rw [if_pos h1, h1, hd]
    rw [if_neg h1]
    by_cases h2 : y = Str.ofString "count"
    · rw [if_pos h2, h2, hc]
    rw [if_neg h2]
    by_cases h3 : y = Str.ofString "is_probed"
    · rw [if_pos h3]
    rw [if_neg h3]
    by_cases h4 : y = Str.ofString "again"
    · rw [if_pos h4]
    rw [if_neg h4]
    by_cases h5 : y = Str.ofString "probe"
    · rw [if_pos h5]
    rw [if_neg h5]
    exact (e y h1 h2 h3 h4 h5).symm
  rw [em]; exact F
theorem news_two {h₀ h : Heap} {L : Addr} {q : Addr × Obj} {l l' : List (Addr × Obj)} (N : News h₀ L h l) (h1 : q ∈ l) (hs : ∀ p ∈ l', p ∈ l) : News h₀ L h (q :: l') := fun p hp => by
  rcases List.mem_cons.mp hp with rfl | hp
  · exact N _ h1
  · exact N _ (hs p hp)
theorem pw_of {p r : Int} (h0 : 0 ≤ p) (h8 : p < 8) (h1 : r ≤ 60) (h2 : r ≤ 10 * ([1, 2, 4, 8, 16, 32, 64, 128] : List Int).getD p.toNat 0) (h3 : r = 60 ∨ r = 10 * ([1, 2, 4, 8, 16, 32, 64, 128] : List Int).getD p.toNat 0) : r = pw p := by
  obtain ⟨n, rfl⟩ := Int.eq_ofNat_of_zero_le h0
  have e := (by decide : ∀ n : Nat, n < 8 → pw (n : Int) = if 10 * ([1, 2, 4, 8, 16, 32, 64, 128] : List Int).getD n 0 < 60 then 10 * ([1, 2, 4, 8, 16, 32, 64, 128] : List Int).getD n 0 else 60) n (Int.ofNat_lt.mp h8)
  rw [Int.toNat_natCast] at h2 h3
  rw [e]
  split <;> omega
theorem q_true {Q : Value → Shared → Prop} {b : Bool} {s : Shared} (e : b = true) (h : Q (.bool true) s) : Q (.bool b) s := by rw [e]; exact h
theorem list4 {tm : Int → Option Int} {a b : Int} (f1 : tv tm 1 = a) (f2 : tv tm 2 = b) (f3 : tv tm 3 = 0) (f4 : tv tm 4 = 0) : List.map (fun k' => tv tm k') [1, 2, 3, 4] = [a, b, 0, 0] := by
  simp only [List.map, f1, f2, f3, f4]
theorem news_sub {h₀ h : Heap} {L : Addr} {l l' : List (Addr × Obj)} (N : News h₀ L h l) (hs : ∀ p ∈ l', p ∈ l) : News h₀ L h l' := fun p hp => N p (hs p hp)
theorem d0S_f {ac : Bool} {x z : Int} {b : Bool} (h : ac = false) : x = d0S ac x z b := by unfold d0S; rw [h]; rfl
theorem d0S_t {ac : Bool} {x z : Int} {b : Bool} (h : ac = true) : orI x z * (if b = true then 1 else 0) = d0S ac x z b := by unfold d0S; rw [h]; rfl
theorem d1S_t {ac : Bool} {x y r q : Int} {b : Bool} (h : ac = true) (e : r = q) : orI x (y + r) * (if b = true then 1 else 0) = d0S ac x (y + q) b := by rw [e]; exact d0S_t h
theorem cS_f {ac : Bool} {p : Int} {b : Bool} (h : ac = false) : p = cS ac p b := by unfold cS; rw [h]; rfl
theorem cS_t {ac : Bool} {p : Int} {b : Bool} (h : ac = true) : p * (if b = true then 1 else 0) = cS ac p b := by unfold cS; rw [h]; rfl
theorem rowsT6x1 : True := by
  k_with_none
  k_with "data" => (repeat ((fail_if_success (refine Classical.byContradiction ?_)); rotate_left))
  k_with "callWith ref" => (k_here; k_dflt (refine' callWith_K (by with_reducible assumption) (by k_is) ?_; k_whole))
  k_with "callWith ref" => (k_here; (with_reducible show wpAny _ _ (callWith _ _ _ (backTo _ (starEach [] _)) []) _ _ _); (with_reducible rename Fr _ _ _ _ => kF); k_dflt (refine' callWith_K0 (Frag.In.keeps (by with_reducible assumption) (Fr.keep kF)) (by k_is) ?_; k_whole))
  k_with "call builtin:min" => (k_here; (with_reducible show wpAny _ _ (call (Value.builtin _) [Value.int _ _, Value.int _ _]) _ _ _); (with_unfolding_all refine' min2_K (by with_unfolding_all rfl) (by k_asm) (by k_asm) ?_; k_whole); (intro h' tk' r9 tr9 hr1 hr2 hr3 F' N'); (try k_sweep))
  k_with "call builtin:max" => (k_here; (with_reducible show wpAny _ _ (call (Value.builtin _) [Value.int _ _, Value.int _ _]) _ _ _); (with_unfolding_all refine' max2_K (by with_unfolding_all rfl) (by k_asm) (by k_asm) ?_; k_whole); (intro h' tk' r9 tr9 hr1 hr2 hr3 F' N'); (try k_sweep))
  k_with "call builtin:min" => (k_here; (with_reducible show wpAny _ _ (call (Value.builtin _) [Value.int _ _, Value.int _ _, Value.int _ _]) _ _ _); (with_unfolding_all refine' min3_K (by with_unfolding_all rfl) (by k_asm) (by k_asm) ?_; k_whole); (intro h' tk' r9 tr9 hr1 hr2 hr3 hr4 F' N'); (try k_sweep))
  k_with "And" => ((with_reducible show Flow.next = Flow.next ∧ _); refine ⟨rfl, ?_⟩)
  exact True.intro
local macro_rules | `(tactic| k_mem) => `(tactic| (refine mem_ltr ?_; with_reducible assumption))
local macro_rules | `(tactic| k_mem) => `(tactic| first | exact kp0 (by assumption) | exact kp1 (by assumption) | exact kp6 (by assumption) | exact kp7 (by assumption))
theorem rowsT6x2 : True := by
  k_with "call ref" => (k_here; (with_reducible show wpAny _ _ (call (Value.ref 711) _) _ _ _); k_dflt ((refine' cancelW _ _ _ _ _ _ _ _ _ _ _ _ _ _ _ _ _ _ _ _ _ _ _ _ _ _ _ _ _ _ _ _ _ (by k_asm) (by k_asm) (by k_asm) (by k_asm) (by k_asm) (by first | exact rfl | assumption) (by ktr_room) ?_ ?_ ?_ ?_ ?_ (by assumption) ?_ ?_; k_extra "data"; (focus (first | exact Spl.nil | exact (Spl.cons Spl.nil) | exact (Spl.cons (Spl.cons Spl.nil)) | exact (Spl.cons (Spl.cons (Spl.cons Spl.nil))) | exact (Spl.cons (Spl.cons (Spl.cons (Spl.cons Spl.nil)))) | exact (Spl.cons (Spl.cons (Spl.cons (Spl.cons (Spl.cons Spl.nil))))) | exact (Spl.cons (Spl.cons (Spl.cons (Spl.cons (Spl.cons (Spl.cons Spl.nil)))))) | exact (Spl.cons (Spl.cons (Spl.cons (Spl.cons (Spl.cons (Spl.cons (Spl.cons Spl.nil))))))) | exact (Spl.cons (Spl.cons (Spl.cons (Spl.cons (Spl.cons (Spl.cons (Spl.cons (Spl.cons Spl.nil)))))))) | exact (Spl.cons (Spl.cons (Spl.cons (Spl.cons (Spl.cons (Spl.cons (Spl.cons (Spl.cons (Spl.cons Spl.nil))))))))) | exact (Spl.cons (Spl.cons (Spl.cons (Spl.cons (Spl.cons (Spl.cons (Spl.cons (Spl.cons (Spl.cons (Spl.cons Spl.nil)))))))))) | exact (Spl.cons (Spl.cons (Spl.cons (Spl.cons (Spl.cons (Spl.cons (Spl.cons (Spl.cons (Spl.cons (Spl.cons (Spl.cons Spl.nil))))))))))) | exact (Spl.cons (Spl.cons (Spl.cons (Spl.cons (Spl.cons (Spl.cons (Spl.cons (Spl.cons (Spl.cons (Spl.cons (Spl.cons (Spl.cons Spl.nil)))))))))))) | exact (Spl.cons (Spl.cons (Spl.cons (Spl.cons (Spl.cons (Spl.cons (Spl.cons (Spl.cons (Spl.cons (Spl.cons (Spl.cons (Spl.cons (Spl.cons Spl.nil))))))))))))) | exact (Spl.cons (Spl.cons (Spl.cons (Spl.cons (Spl.cons (Spl.cons (Spl.cons (Spl.cons (Spl.cons (Spl.cons (Spl.cons (Spl.cons (Spl.cons (Spl.cons Spl.nil)))))))))))))) | exact (Spl.cons (Spl.cons (Spl.cons (Spl.cons (Spl.cons (Spl.cons (Spl.cons (Spl.cons (Spl.cons (Spl.cons (Spl.cons (Spl.cons (Spl.cons (Spl.cons (Spl.cons Spl.nil))))))))))))))) | exact (Spl.cons (Spl.cons (Spl.cons (Spl.cons (Spl.cons (Spl.cons (Spl.cons (Spl.cons (Spl.cons (Spl.cons (Spl.cons (Spl.cons (Spl.cons (Spl.cons (Spl.cons (Spl.cons Spl.nil)))))))))))))))) | exact (Spl.cons (Spl.cons (Spl.cons (Spl.cons (Spl.cons (Spl.cons (Spl.cons (Spl.cons (Spl.cons (Spl.cons (Spl.cons (Spl.cons (Spl.cons (Spl.cons (Spl.cons (Spl.cons (Spl.cons Spl.nil))))))))))))))))) | exact (Spl.cons (Spl.cons (Spl.cons (Spl.cons (Spl.cons (Spl.cons (Spl.cons (Spl.cons (Spl.cons (Spl.cons (Spl.cons (Spl.cons (Spl.cons (Spl.cons (Spl.cons (Spl.cons (Spl.cons (Spl.cons Spl.nil)))))))))))))))))) | exact (Spl.cons (Spl.cons (Spl.cons (Spl.cons (Spl.cons (Spl.cons (Spl.cons (Spl.cons (Spl.cons (Spl.cons (Spl.cons (Spl.cons (Spl.cons (Spl.cons (Spl.cons (Spl.cons (Spl.cons (Spl.cons (Spl.cons Spl.nil))))))))))))))))))) | exact (Spl.cons (Spl.cons (Spl.cons (Spl.cons (Spl.cons (Spl.cons (Spl.cons (Spl.cons (Spl.cons (Spl.cons (Spl.cons (Spl.cons (Spl.cons (Spl.cons (Spl.cons (Spl.cons (Spl.cons (Spl.cons (Spl.cons (Spl.cons Spl.nil)))))))))))))))))))) | exact (Spl.cons (Spl.cons (Spl.cons (Spl.cons (Spl.cons (Spl.cons (Spl.cons (Spl.cons (Spl.cons (Spl.cons (Spl.cons (Spl.cons (Spl.cons (Spl.cons (Spl.cons (Spl.cons (Spl.cons (Spl.cons (Spl.cons (Spl.cons (Spl.cons Spl.nil))))))))))))))))))))))); (focus ((dsimp only [List.map]; first | assumption | ((repeat' (first | exact own_nil | refine' own_cons ?_ ?_)) <;> k_all)))); assumption; assumption; assumption; omega; (intro prv9 h9 tk9 m09 m19 W9 O9 F9 N9); (try dsimp only [List.map] at O9); (try simp only [List.cons_append, List.nil_append] at N9); (try k_sweep); (try dsimp only); (try k_fold))))
  k_with "call ref" => (k_here; (with_reducible show wpAny _ _ (call (Value.ref 697) _) _ _ _); k_dflt ((refine' putW _ _ _ _ _ _ _ _ _ _ _ _ _ _ _ _ _ _ _ _ _ _ _ _ _ _ _ _ _ _ _ _ _ _ _ (by k_asm) (by k_asm) (by k_asm) (by k_asm) (by k_asm) (by first | exact rfl | assumption) (by ktr_room) ?_ ?_ ?_ ?_ ?_ (by assumption) ?_ ?_ ?_; k_extra "data"; (focus (first | exact Spl.nil | exact (Spl.cons Spl.nil) | exact (Spl.cons (Spl.cons Spl.nil)) | exact (Spl.cons (Spl.cons (Spl.cons Spl.nil))) | exact (Spl.cons (Spl.cons (Spl.cons (Spl.cons Spl.nil)))) | exact (Spl.cons (Spl.cons (Spl.cons (Spl.cons (Spl.cons Spl.nil))))) | exact (Spl.cons (Spl.cons (Spl.cons (Spl.cons (Spl.cons (Spl.cons Spl.nil)))))) | exact (Spl.cons (Spl.cons (Spl.cons (Spl.cons (Spl.cons (Spl.cons (Spl.cons Spl.nil))))))) | exact (Spl.cons (Spl.cons (Spl.cons (Spl.cons (Spl.cons (Spl.cons (Spl.cons (Spl.cons Spl.nil)))))))) | exact (Spl.cons (Spl.cons (Spl.cons (Spl.cons (Spl.cons (Spl.cons (Spl.cons (Spl.cons (Spl.cons Spl.nil))))))))) | exact (Spl.cons (Spl.cons (Spl.cons (Spl.cons (Spl.cons (Spl.cons (Spl.cons (Spl.cons (Spl.cons (Spl.cons Spl.nil)))))))))) | exact (Spl.cons (Spl.cons (Spl.cons (Spl.cons (Spl.cons (Spl.cons (Spl.cons (Spl.cons (Spl.cons (Spl.cons (Spl.cons Spl.nil))))))))))) | exact (Spl.cons (Spl.cons (Spl.cons (Spl.cons (Spl.cons (Spl.cons (Spl.cons (Spl.cons (Spl.cons (Spl.cons (Spl.cons (Spl.cons Spl.nil)))))))))))) | exact (Spl.cons (Spl.cons (Spl.cons (Spl.cons (Spl.cons (Spl.cons (Spl.cons (Spl.cons (Spl.cons (Spl.cons (Spl.cons (Spl.cons (Spl.cons Spl.nil))))))))))))) | exact (Spl.cons (Spl.cons (Spl.cons (Spl.cons (Spl.cons (Spl.cons (Spl.cons (Spl.cons (Spl.cons (Spl.cons (Spl.cons (Spl.cons (Spl.cons (Spl.cons Spl.nil)))))))))))))) | exact (Spl.cons (Spl.cons (Spl.cons (Spl.cons (Spl.cons (Spl.cons (Spl.cons (Spl.cons (Spl.cons (Spl.cons (Spl.cons (Spl.cons (Spl.cons (Spl.cons (Spl.cons Spl.nil))))))))))))))) | exact (Spl.cons (Spl.cons (Spl.cons (Spl.cons (Spl.cons (Spl.cons (Spl.cons (Spl.cons (Spl.cons (Spl.cons (Spl.cons (Spl.cons (Spl.cons (Spl.cons (Spl.cons (Spl.cons Spl.nil)))))))))))))))) | exact (Spl.cons (Spl.cons (Spl.cons (Spl.cons (Spl.cons (Spl.cons (Spl.cons (Spl.cons (Spl.cons (Spl.cons (Spl.cons (Spl.cons (Spl.cons (Spl.cons (Spl.cons (Spl.cons (Spl.cons Spl.nil))))))))))))))))) | exact (Spl.cons (Spl.cons (Spl.cons (Spl.cons (Spl.cons (Spl.cons (Spl.cons (Spl.cons (Spl.cons (Spl.cons (Spl.cons (Spl.cons (Spl.cons (Spl.cons (Spl.cons (Spl.cons (Spl.cons (Spl.cons Spl.nil)))))))))))))))))) | exact (Spl.cons (Spl.cons (Spl.cons (Spl.cons (Spl.cons (Spl.cons (Spl.cons (Spl.cons (Spl.cons (Spl.cons (Spl.cons (Spl.cons (Spl.cons (Spl.cons (Spl.cons (Spl.cons (Spl.cons (Spl.cons (Spl.cons Spl.nil))))))))))))))))))) | exact (Spl.cons (Spl.cons (Spl.cons (Spl.cons (Spl.cons (Spl.cons (Spl.cons (Spl.cons (Spl.cons (Spl.cons (Spl.cons (Spl.cons (Spl.cons (Spl.cons (Spl.cons (Spl.cons (Spl.cons (Spl.cons (Spl.cons (Spl.cons Spl.nil)))))))))))))))))))) | exact (Spl.cons (Spl.cons (Spl.cons (Spl.cons (Spl.cons (Spl.cons (Spl.cons (Spl.cons (Spl.cons (Spl.cons (Spl.cons (Spl.cons (Spl.cons (Spl.cons (Spl.cons (Spl.cons (Spl.cons (Spl.cons (Spl.cons (Spl.cons (Spl.cons Spl.nil))))))))))))))))))))))); (focus ((dsimp only [List.map]; first | assumption | ((repeat' (first | exact own_nil | refine' own_cons ?_ ?_)) <;> k_all)))); assumption; assumption; assumption; omega; (focus (first | assumption | (simp [tmDel, tmPut]; done) | (simp [tmDel, tmPut]; assumption))); (intro prv9 h9 tk9 tg9 m09 m19 W9 O9 F9 N9); (try dsimp only [List.map] at O9); (try simp only [List.cons_append, List.nil_append] at N9); (try k_sweep); (try dsimp only); (try k_fold))))
  k_with "call ref" => (k_here; (with_reducible show wpAny _ _ (call (Value.ref 718) _) _ _ _); k_dflt ((refine' time_w _ _ _ _ _ _ _ _ _ _ _ _ _ _ _ _ _ _ _ _ _ _ _ _ _ _ _ _ _ _ _ _ (by k_asm) (by k_asm) (by k_asm) (by k_asm) (by k_asm) (by first | exact rfl | assumption) (by ktr_room) (Spl.sub ?_) ?_ ?_ ?_ (by assumption) ?_ ?_; k_extra "data"; (focus (first | exact Spl.nil | exact (Spl.cons Spl.nil) | exact (Spl.cons (Spl.cons Spl.nil)) | exact (Spl.cons (Spl.cons (Spl.cons Spl.nil))) | exact (Spl.cons (Spl.cons (Spl.cons (Spl.cons Spl.nil)))) | exact (Spl.cons (Spl.cons (Spl.cons (Spl.cons (Spl.cons Spl.nil))))) | exact (Spl.cons (Spl.cons (Spl.cons (Spl.cons (Spl.cons (Spl.cons Spl.nil)))))) | exact (Spl.cons (Spl.cons (Spl.cons (Spl.cons (Spl.cons (Spl.cons (Spl.cons Spl.nil))))))) | exact (Spl.cons (Spl.cons (Spl.cons (Spl.cons (Spl.cons (Spl.cons (Spl.cons (Spl.cons Spl.nil)))))))) | exact (Spl.cons (Spl.cons (Spl.cons (Spl.cons (Spl.cons (Spl.cons (Spl.cons (Spl.cons (Spl.cons Spl.nil))))))))) | exact (Spl.cons (Spl.cons (Spl.cons (Spl.cons (Spl.cons (Spl.cons (Spl.cons (Spl.cons (Spl.cons (Spl.cons Spl.nil)))))))))) | exact (Spl.cons (Spl.cons (Spl.cons (Spl.cons (Spl.cons (Spl.cons (Spl.cons (Spl.cons (Spl.cons (Spl.cons (Spl.cons Spl.nil))))))))))) | exact (Spl.cons (Spl.cons (Spl.cons (Spl.cons (Spl.cons (Spl.cons (Spl.cons (Spl.cons (Spl.cons (Spl.cons (Spl.cons (Spl.cons Spl.nil)))))))))))) | exact (Spl.cons (Spl.cons (Spl.cons (Spl.cons (Spl.cons (Spl.cons (Spl.cons (Spl.cons (Spl.cons (Spl.cons (Spl.cons (Spl.cons (Spl.cons Spl.nil))))))))))))) | exact (Spl.cons (Spl.cons (Spl.cons (Spl.cons (Spl.cons (Spl.cons (Spl.cons (Spl.cons (Spl.cons (Spl.cons (Spl.cons (Spl.cons (Spl.cons (Spl.cons Spl.nil)))))))))))))) | exact (Spl.cons (Spl.cons (Spl.cons (Spl.cons (Spl.cons (Spl.cons (Spl.cons (Spl.cons (Spl.cons (Spl.cons (Spl.cons (Spl.cons (Spl.cons (Spl.cons (Spl.cons Spl.nil))))))))))))))) | exact (Spl.cons (Spl.cons (Spl.cons (Spl.cons (Spl.cons (Spl.cons (Spl.cons (Spl.cons (Spl.cons (Spl.cons (Spl.cons (Spl.cons (Spl.cons (Spl.cons (Spl.cons (Spl.cons Spl.nil)))))))))))))))) | exact (Spl.cons (Spl.cons (Spl.cons (Spl.cons (Spl.cons (Spl.cons (Spl.cons (Spl.cons (Spl.cons (Spl.cons (Spl.cons (Spl.cons (Spl.cons (Spl.cons (Spl.cons (Spl.cons (Spl.cons Spl.nil))))))))))))))))) | exact (Spl.cons (Spl.cons (Spl.cons (Spl.cons (Spl.cons (Spl.cons (Spl.cons (Spl.cons (Spl.cons (Spl.cons (Spl.cons (Spl.cons (Spl.cons (Spl.cons (Spl.cons (Spl.cons (Spl.cons (Spl.cons Spl.nil)))))))))))))))))) | exact (Spl.cons (Spl.cons (Spl.cons (Spl.cons (Spl.cons (Spl.cons (Spl.cons (Spl.cons (Spl.cons (Spl.cons (Spl.cons (Spl.cons (Spl.cons (Spl.cons (Spl.cons (Spl.cons (Spl.cons (Spl.cons (Spl.cons Spl.nil))))))))))))))))))) | exact (Spl.cons (Spl.cons (Spl.cons (Spl.cons (Spl.cons (Spl.cons (Spl.cons (Spl.cons (Spl.cons (Spl.cons (Spl.cons (Spl.cons (Spl.cons (Spl.cons (Spl.cons (Spl.cons (Spl.cons (Spl.cons (Spl.cons (Spl.cons Spl.nil)))))))))))))))))))) | exact (Spl.cons (Spl.cons (Spl.cons (Spl.cons (Spl.cons (Spl.cons (Spl.cons (Spl.cons (Spl.cons (Spl.cons (Spl.cons (Spl.cons (Spl.cons (Spl.cons (Spl.cons (Spl.cons (Spl.cons (Spl.cons (Spl.cons (Spl.cons (Spl.cons Spl.nil))))))))))))))))))))))); assumption; assumption; assumption; rotate_left; (intro t9 t19 h9 tk9 hq9 F9 N9; (try k_sweep); (try dsimp only); (try k_fold)); rotate_left; (intro h9 tk9 hq9 F9 N9; (try k_sweep); (try dsimp only); (try k_fold)))))
  k_with "call ref" => (k_here; (with_reducible show wpAny _ _ (call (Value.ref 815) _) _ _ _); k_dflt ((refine' keepW _ _ _ _ _ _ _ _ _ _ _ _ _ _ _ _ _ _ _ _ _ _ _ _ _ _ _ _ _ _ _ _ _ _ _ _ _ _ _ _ _ _ _ _ _ _ _ _ _ _ _ _ _ _ _ _ _ _ _ _ _ _ _ (by k_asm) (by k_asm) (by k_asm) (by k_asm) (by k_asm) (by first | exact rfl | assumption) (by ktr_room) ?_ ?_ ?_ ?_ (by assumption) ?_ ?_ ?_ ?_ ?_ ?_ ?_ ?_ ?_ ?_ ?_ ?_; k_extra "data"; (focus (first | exact Spl.nil | exact (Spl.cons Spl.nil) | exact (Spl.cons (Spl.cons Spl.nil)) | exact (Spl.cons (Spl.cons (Spl.cons Spl.nil))) | exact (Spl.cons (Spl.cons (Spl.cons (Spl.cons Spl.nil)))) | exact (Spl.cons (Spl.cons (Spl.cons (Spl.cons (Spl.cons Spl.nil))))) | exact (Spl.cons (Spl.cons (Spl.cons (Spl.cons (Spl.cons (Spl.cons Spl.nil)))))) | exact (Spl.cons (Spl.cons (Spl.cons (Spl.cons (Spl.cons (Spl.cons (Spl.cons Spl.nil))))))) | exact (Spl.cons (Spl.cons (Spl.cons (Spl.cons (Spl.cons (Spl.cons (Spl.cons (Spl.cons Spl.nil)))))))) | exact (Spl.cons (Spl.cons (Spl.cons (Spl.cons (Spl.cons (Spl.cons (Spl.cons (Spl.cons (Spl.cons Spl.nil))))))))) | exact (Spl.cons (Spl.cons (Spl.cons (Spl.cons (Spl.cons (Spl.cons (Spl.cons (Spl.cons (Spl.cons (Spl.cons Spl.nil)))))))))) | exact (Spl.cons (Spl.cons (Spl.cons (Spl.cons (Spl.cons (Spl.cons (Spl.cons (Spl.cons (Spl.cons (Spl.cons (Spl.cons Spl.nil))))))))))) | exact (Spl.cons (Spl.cons (Spl.cons (Spl.cons (Spl.cons (Spl.cons (Spl.cons (Spl.cons (Spl.cons (Spl.cons (Spl.cons (Spl.cons Spl.nil)))))))))))) | exact (Spl.cons (Spl.cons (Spl.cons (Spl.cons (Spl.cons (Spl.cons (Spl.cons (Spl.cons (Spl.cons (Spl.cons (Spl.cons (Spl.cons (Spl.cons Spl.nil))))))))))))) | exact (Spl.cons (Spl.cons (Spl.cons (Spl.cons (Spl.cons (Spl.cons (Spl.cons (Spl.cons (Spl.cons (Spl.cons (Spl.cons (Spl.cons (Spl.cons (Spl.cons Spl.nil)))))))))))))) | exact (Spl.cons (Spl.cons (Spl.cons (Spl.cons (Spl.cons (Spl.cons (Spl.cons (Spl.cons (Spl.cons (Spl.cons (Spl.cons (Spl.cons (Spl.cons (Spl.cons (Spl.cons Spl.nil))))))))))))))) | exact (Spl.cons (Spl.cons (Spl.cons (Spl.cons (Spl.cons (Spl.cons (Spl.cons (Spl.cons (Spl.cons (Spl.cons (Spl.cons (Spl.cons (Spl.cons (Spl.cons (Spl.cons (Spl.cons Spl.nil)))))))))))))))) | exact (Spl.cons (Spl.cons (Spl.cons (Spl.cons (Spl.cons (Spl.cons (Spl.cons (Spl.cons (Spl.cons (Spl.cons (Spl.cons (Spl.cons (Spl.cons (Spl.cons (Spl.cons (Spl.cons (Spl.cons Spl.nil))))))))))))))))) | exact (Spl.cons (Spl.cons (Spl.cons (Spl.cons (Spl.cons (Spl.cons (Spl.cons (Spl.cons (Spl.cons (Spl.cons (Spl.cons (Spl.cons (Spl.cons (Spl.cons (Spl.cons (Spl.cons (Spl.cons (Spl.cons Spl.nil)))))))))))))))))) | exact (Spl.cons (Spl.cons (Spl.cons (Spl.cons (Spl.cons (Spl.cons (Spl.cons (Spl.cons (Spl.cons (Spl.cons (Spl.cons (Spl.cons (Spl.cons (Spl.cons (Spl.cons (Spl.cons (Spl.cons (Spl.cons (Spl.cons Spl.nil))))))))))))))))))) | exact (Spl.cons (Spl.cons (Spl.cons (Spl.cons (Spl.cons (Spl.cons (Spl.cons (Spl.cons (Spl.cons (Spl.cons (Spl.cons (Spl.cons (Spl.cons (Spl.cons (Spl.cons (Spl.cons (Spl.cons (Spl.cons (Spl.cons (Spl.cons Spl.nil)))))))))))))))))))) | exact (Spl.cons (Spl.cons (Spl.cons (Spl.cons (Spl.cons (Spl.cons (Spl.cons (Spl.cons (Spl.cons (Spl.cons (Spl.cons (Spl.cons (Spl.cons (Spl.cons (Spl.cons (Spl.cons (Spl.cons (Spl.cons (Spl.cons (Spl.cons (Spl.cons Spl.nil))))))))))))))))))))))); assumption; assumption; assumption; (focus ((dsimp only [List.map]; first | assumption | ((repeat' (first | exact own_nil | refine' own_cons ?_ ?_)) <;> k_all)))); (focus ((first | assumption | ((repeat' (first | exact own_nil | refine' own_cons ?_ ?_)) <;> k_all)))); (focus ((dsimp only [List.map, AllNe]; (repeat' (first | exact True.intro | refine And.intro ?_ ?_)) <;> omega))); (focus ((dsimp only [List.map, AllNe]; (repeat' (first | exact True.intro | refine And.intro ?_ ?_)) <;> omega))); omega; (focus (first | assumption | omega)); assumption; assumption; assumption; assumption; assumption; (intro prv9 tp9 gv9 tg9 h9 tk9 m09 m19 W9 O9 O9b F9 N9); (try dsimp only [List.map] at O9b); (try simp only [List.cons_append, List.nil_append] at N9); (try k_sweep); (try dsimp only); (try k_fold))))
  k_with "subscriptTail Name Constant ref int" => (k_here; (with_reducible show wpAny _ _ (subscriptTail _ _ (Value.ref _) (Value.int _ _)) _ _ _); k_dflt (refine' it_lit (by k_asm) (by k_mem) (by decide) (by decide) (by exact rfl) ?_ (by with_unfolding_all rfl); k_whole))
  k_with "binaryOp Add ref ref" => (k_here; (with_reducible show wpAny _ _ (binaryOp _ (Value.ref _) (Value.ref _)) _ _ _); k_dflt ((refine' add_LL (by k_asm) (by k_asm) (by k_mem) (by k_mem) (by first | exact Nat.le_of_ble_eq_true rfl | (rw [sizeLine_eq]; simp)) ?_)); intro D' h' F' N' l1; (try simp only [List.cons_append, List.nil_append] at N'); (try k_lt l1); (try k_sweep))
  k_with "compareOp Eq ref ref" => (k_here; (with_reducible show wpAny _ _ (compareOp CmpOp.Eq (Value.ref _) (Value.ref _)) _ _ _); k_dflt ((refine' eq_intsK (by (refine' News.isList (by k_asm) (by k_mem))) (by first | assumption | l_ints) (by (refine' News.isList (by k_asm) (by k_mem))) (by first | assumption | l_ints) (by ((try simp only [units_in1, units_deeper, Around.mark_units, units_caller]); (try dsimp only [ktrTop]); omega)) ?_)))
  k_with "OrEnd" => (k_dflt ((refine' OrEnd.mk (by first | exact or_none (by assumption) | exact or_some (by assumption) | exact or_zero (by assumption) (by first | assumption | omega | simp_all) | exact orI_l (by assumption) | exact orI_r (by assumption) | exact orI_l (by omega) | exact orI_r (by omega)) (by k_asm) (by first | k_asm | (refine' news_tl (by k_asm)) | (refine' news_tl (news_tl (by k_asm))) | (refine' news_tl (news_tl (news_tl (by k_asm)))) | (refine' news_tl (news_tl (news_tl (news_tl (by k_asm)))))))))
  k_with "BEnd" => (k_dflt ((refine' BEnd.mk (by first | exact bF (by assumption) | exact bF' (by assumption) | exact bT (by assumption)) (by k_asm) (by first | k_asm | (refine' news_tl (by k_asm)) | (refine' news_tl (news_tl (by k_asm))) | (refine' news_tl (news_tl (news_tl (by k_asm)))) | (refine' news_tl (news_tl (news_tl (news_tl (by k_asm)))))))))
  k_with "eval BoolOp" => (k_here; (with_reducible show wpAny _ _ (eval (Expr.BoolOp BoolOp.Or [Expr.Call _ _ _ _, Expr.Constant _ _ _] _) _) _ _ _); (fail_if_success (with_reducible show wpAny _ _ _ (OrEnd _ _ _ _ _ _) _ _)); k_dflt ((refine' or_cut (by assumption) ?_ ?_ ?_ ?_ ?_; k_extra "data"; assumption; k_asm; k_asm); rotate_left; (intro t9 h9 tk9 F9 N9; (try k_sweep); (try dsimp only); (try k_fold)); rotate_left))
  k_with "eval BoolOp" => (k_here; (with_reducible show wpAny _ _ (eval (Expr.BoolOp BoolOp.Or [Expr.Subscript _ (Expr.Constant (Const.int 0) _ _) _, Expr.Name _ _] _) _) _ _ _); (fail_if_success (with_reducible show wpAny _ _ _ (OrEnd _ _ _ _ _ _) _ _)); k_dflt ((refine' or_t0 (z := Str.ofString "again") (by k_asm) (by k_asm) (by exact rfl) (by k_mem) (by exact rfl) ?_ ?_); rotate_left; (intro t9 h9 tk9 F9 N9; (try k_sweep); (try dsimp only); (try k_fold)); rotate_left))
  k_with "eval BoolOp" => (k_here; (with_reducible show wpAny _ _ (eval (Expr.BoolOp BoolOp.Or [Expr.Subscript _ (Expr.Constant (Const.int 1) _ _) _, Expr.Name _ _] _) _) _ _ _); (fail_if_success (with_reducible show wpAny _ _ _ (OrEnd _ _ _ _ _ _) _ _)); k_dflt ((refine' or_t1 (z := Str.ofString "probe") (by k_asm) (by k_asm) (by exact rfl) (by k_mem) (by exact rfl) ?_ ?_); rotate_left; (intro t9 h9 tk9 F9 N9; (try k_sweep); (try dsimp only); (try k_fold)); rotate_left))
  k_with "eval BoolOp" => (k_here; (with_reducible show wpAny _ _ (eval (Expr.BoolOp BoolOp.And [Expr.Subscript _ _ _, Expr.Compare _ _ _ _] _) _) _ _ _); (fail_if_success (with_reducible show wpAny _ _ _ (BEnd _ _ _ _ _ _) _ _)); k_dflt ((refine' and_w1 (by k_asm) (by k_asm) (by exact rfl) (by k_mem) (by exact rfl) ?_ ?_); rotate_left; (intro h9 tk9 F9 N9; (try k_sweep); (try dsimp only); (try k_fold)); rotate_left))
  exact True.intro
local macro_rules | `(tactic| k_all) => `(tactic| (refine ne_add ?_; tbn_find))
theorem rowsT6x3 : True := by
  k_with "exec For Tuple Call cons nil" => (k_here; (with_reducible rename Fr _ _ _ _ => lF'); (with_unfolding_all refine' For_turns lF' ?_; k_whole))
  k_with "exec For Tuple Call" => (k_here; (with_reducible rename Fr _ _ _ _ => lF'); (with_unfolding_all refine' For_turns lF' ?_; k_whole))
  k_with "call type:zip" => (k_here; (with_reducible show wpAny _ _ (call (Value.type _) [Value.ref _, Value.ref _]) (fun xv s₁ => wpAny _ _ (pyIter xv) (fun it s₂ => TurnsAt _ _ _ _ _ _ _ _ _ it s₂) _ s₁) _ _); (with_reducible rename Fr _ _ _ _ => lF'); k_dflt ((refine' ktu_zip (by rfl) lF' (by k_asm) (by k_mem) (by rfl) (by rfl) (by k_mem) (by rfl) (by rfl) ?_)); intro i' l1; (try k_lt l1))
  k_with "UnrEndW" => (k_here; k_dflt ((refine' unrW_end (by k_asm) (by first | k_asm | (refine' news_tl (by k_asm)) | (refine' news_tl (news_tl (by k_asm))) | (refine' news_tl (news_tl (news_tl (by k_asm)))) | (refine' news_tl (news_tl (news_tl (news_tl (by k_asm)))))) (by (dsimp only [List.map]; (repeat' (first | exact own_lnil | refine' own_lcons ?_ ?_ | exact own_nil | refine' own_cons ?_ ?_)) <;> first | k_all | (dsimp only [List.map, AllNe]; (repeat' (first | exact True.intro | refine And.intro ?_ ?_)) <;> omega))) ?_; refine ⟨⟨by k_mem, by k_mem, trivial⟩, ?_⟩)))
  exact True.intro
set_option maxRecDepth 100000 in
set_option maxHeartbeats 8000000 in
theorem state_right_ok {w : World} {mean : ExcName → Option Value} {mg mb : Str → Option Value} (dp un : Nat) (gd : Option (List Code)) (cn : Str) (cs : Scope) (a : Addr) (ccd : Value) (cl : List (Str × Addr)) (outer : List Env) (A₀ : Around) (base h₀ : Heap) (L : Addr) (m : Str → Option Value) (s : Shared) (Q E : Value → Shared → Prop)
    (k : Nat → Tok) (snd sd pe qu : Addr) (ui nx gr : Int) (syn fin : Bool) (pd : Addr) (win mo : Int) (qd : Addr) (bs : Array UInt8) (clk cd est : Addr) (tries : Int) (ed : Addr) (tcb td li lo re rc cg ak : Addr) (st : Str) (ts : Tok) (pr : Int) (tp : Tok) (whl wd sl lt en : Addr) (gv : Int) (tg : Tok) (tm : Int → Option Int) (bd : Nat) (prv : List (Addr × Obj)) (now : Int) (tn : Tok) (wi ti : Addr) (b0 b1 : Bool) (z2 x0 x1 : Int) (tz tx0 tx1 : Tok) (nwi nti : Nat) (pr1 : Int) (tp1 : Tok) (st1 : Str) (ts1 : Tok)
    (B : Below A₀ base outer h₀) (F : Fr h₀ L s.heap m) (X : (Tr.pre.heap_1_39 w.params).In h₀) (N : News h₀ L s.heap ((wi, listOf [.bool b0, .bool b1, .int z2 tz].toArray nwi) :: (ti, listOf [.int x0 tx0, .int x1 tx1].toArray nti) :: (tcb, instObj 804 td) :: (td, oT w.params k li lo re snd rc clk cg ak whl st ts pr tp) :: prv))
    (T : Top Tr.pre.view_1_40 (looseW Tr.pre.view_1_40 [Str.ofString "Sender", Str.ofString "Tcb"]) mean mg mb h₀) (hk : cs.kind = .function)
    (hdp : dp + 12 < recursionLimit) (m0 : (whl, instObj 740 wd) ∈ prv) (m1 : (wd, oW w.params k sl lt en gv tg) ∈ prv) (WS : WSt whl wd sl lt en) (W : WI w whl wd sl lt en tm bd (kpL w.params k snd sd pe qu ui nx gr syn fin pd win mo qd bs clk cd est tries ed) prv) (off : OwnOff prv [wi, ti, tcb, td]) (hbd : bd ≤ 800) (dtt : @Ne Nat td tcb) (hs : bs.size ≤ 40) (hw : 0 ≤ win) (htr : tries = 0 ∨ tries = 1 ∨ tries = 2) (hp0 : 0 ≤ pr1) (hp1 : pr1 < 8) (d1 : @Ne Nat td wi) (d2 : @Ne Nat td ti) (d3 : @Ne Nat tcb wi) (d4 : @Ne Nat tcb ti) (hx0 : 0 ≤ x0) (hx1 : 0 ≤ x1) (h3 : tm 3 = none) (h4 : tm 4 = none) (e0 : b0 = !decide (((nx - ui).fmod 256) = 0)) (e1 : b1 = np syn fin ((nx - ui).fmod 256) bs.size win mo) (e2 : z2 = wt tries) (hun : un + 1000 < cLine)
    (hret : ∀ prv2 tp2 gv2 tg2 h' tk', (whl, instObj 740 wd) ∈ prv2 → (wd, oW w.params k sl lt en gv2 tg2) ∈ prv2 → WI w whl wd sl lt en (kT (acts st1) (decide (((nx - ui).fmod 256) = 0)) (sends st1 && np syn fin ((nx - ui).fmod 256) bs.size win mo) (lT tm x0 x1) (now + wt tries) (now + pw pr1)) (bd + 4) (kpL w.params k snd sd pe qu ui nx gr syn fin pd win mo qd bs clk cd est tries ed) prv2 → OwnOff prv2 [tcb, td] → OwnOff prv2 [wi, ti] → KeepBut s.heap h' (wi :: ti :: tcb :: td :: prv.map (·.1)) → NewOr s.heap (wi :: ti :: tcb :: td :: prv.map (·.1)) ((wi, listOf [.bool b0, .bool b1, .int z2 tz].toArray nwi) :: (ti, listOf [.int x0 tx0, .int x1 tx1].toArray nti) :: (tcb, instObj 804 td) :: (td, oT w.params k li lo re snd rc clk cg ak whl st1 ts1 (kP (acts st1) (sends st1 && np syn fin ((nx - ui).fmod 256) bs.size win mo) pr1) tp2) :: prv2) → Fr h₀ L h' m → News h₀ L h' ((wi, listOf [.bool b0, .bool b1, .int z2 tz].toArray nwi) :: (ti, listOf [.int x0 tx0, .int x1 tx1].toArray nti) :: (tcb, instObj 804 td) :: (td, oT w.params k li lo re snd rc clk cg ak whl st1 ts1 (kP (acts st1) (sends st1 && np syn fin ((nx - ui).fmod 256) bs.size win mo) pr1) tp2) :: prv2) → Q (.bool true) { s with heap := h', toks := tk' }) :
    wpAny (model Challenge.rw_xw0347_01.row.prog w) (ktrTop dp un gd cn cs L a ccd cl outer) (call (.ref 1092) [.ref tcb, .str st1 ts1, .ref wi, .ref ti, .int pr1 tp1, .int now tn]) Q E s := by
  revert X; k_fill; intro X
  refine wpAny_call ?_
  k_dflt (refine' code_defCF ?k1 ?k2 ?k3 ?k4 ?k5 ?kA ?kF ?kK ?k6 ?k7 ?k8 ?k9 ?kB ?kD ?_ ?c2 ?c3 ?c4; (case kA => exact rfl); (case kF => exact rfl); (case kK => assumption); (case k1 => k_asm); (case k2 => k_asm); (case k3 => k_asm); (case k4 => k_asm); (case k5 => k_asm); (case k6 => k_is); (case k7 => k_is); (case k8 => ktr_room); (case k9 => exact BindsTo.of_eq rfl); (case kB => exact rfl); (case kD => decide +kernel); (case c2 => exact rfl); (case c3 => exact rfl); (case c4 => exact rfl); k_whole)
  intro g0 L0 h0 tk0 cells0 FG0 F0 N0 Y0 B0 X0 T0 l10 hg
  (try k_lt l10)
  obtain ⟨oc, hE, dc⟩ := CellsAre.one Y0
  subst hE
  (try simp only [List.cons_append, List.nil_append] at N0)
  (try dsimp only)
  (try k_fold)
  refine execs_holdP (fun P8 hP8 => ?_)
  k_steps
  unfold Hold
  refine' hP8 _ ?_
  with_reducible rename Fr _ _ _ _ => F1
  refine execs_cutP F1 (fun mm s' => (∀ R9 : Prop, (∀ (u : Str → Option Value) (h1 : Heap) (tk1 : Nat) (prv1 : List (Addr × Obj)) (gv1 : Int) (tg1 : Tok), s' = { s with heap := h1, toks := tk1 } → Fr g0 L0 h1 (fun y => if y = Str.ofString "key" then u y else if y = Str.ofString "time" then u y else mm y) → News g0 L0 h1 ([(L0 + 1, oc), (wi, listOf [.bool b0, .bool b1, .int z2 tz].toArray nwi), (ti, listOf [.int x0 tx0, .int x1 tx1].toArray nti), (tcb, instObj 804 td), (td, oT w.params k li lo re snd rc clk cg ak whl st1 ts1 pr1 tp1)] ++ prv1) → (whl, instObj 740 wd) ∈ prv1 → (wd, oW w.params k sl lt en gv1 tg1) ∈ prv1 → WI w whl wd sl lt en (lT tm x0 x1) (bd + 2) (kpL w.params k snd sd pe qu ui nx gr syn fin pd win mo qd bs clk cd est tries ed) prv1 → OwnOff prv1 [L0 + 1, wi, ti, tcb, td] → R9) → R9)) (fun P9 hP9 => ?_) ?_
  · k_steps
    all_goals unfold StopAt
    all_goals refine' hP9 _ ?_
    all_goals (intro R9 k9; refine' k9 _ _ _ _ _ _ rfl (over_fr ?F ?e) ?N ?m0 ?m1 ?W ?O; (case W => (unfold lT; (first | rw [lT1_put (k := 1) (by assumption)] | rw [lT1_del (k := 1) (by assumption)]); (first | rw [lT1_put (k := 2) (by assumption)] | rw [lT1_del (k := 2) (by assumption)]); exact WI.mono (by assumption) (by omega))); (case F => k_asm); (case e => (intro y hy1 hy2; simp only [if_neg hy1, if_neg hy2])); (case N => first | k_asm | (refine' news_tl ?z1; (case z1 => k_asm)) | (refine' news_tl (news_tl ?z1); (case z1 => k_asm)) | (refine' news_tl (news_tl (news_tl ?z1)); (case z1 => k_asm)) | (refine' news_tl (news_tl (news_tl (news_tl ?z1))); (case z1 => k_asm))); (case m0 => assumption); (case m1 => assumption); (case O => (repeat' (first | exact own_nil | refine' own_cons ?_ ?_)) <;> k_all))
  · rintro s' M9; refine M9 _ ?_; clear M9; rintro u1 h1 tk1 prv1 gv1 tg1 rfl F2 N2 n0 n1 W1 O1
    clear W m0 m1 off
    simp only [List.cons_append, List.nil_append] at N2
    with_reducible rename Fr _ _ _ _ => F2
    refine execs_cutP F2 (fun mm s' => (∀ R9 : Prop, (∀ (h1 : Heap) (tk1 : Nat) (prv2 : List (Addr × Obj)) (tp2 : Tok) (gv2 : Int) (tg2 : Tok), s' = { s with heap := h1, toks := tk1 } → Fr g0 L0 h1 mm → News g0 L0 h1 ([(L0 + 1, oc), (wi, listOf [.bool b0, .bool b1, .int z2 tz].toArray nwi), (ti, listOf [.int x0 tx0, .int x1 tx1].toArray nti), (tcb, instObj 804 td), (td, oT w.params k li lo re snd rc clk cg ak whl st1 ts1 (kP (acts st1) (sends st1 && np syn fin ((nx - ui).fmod 256) bs.size win mo) pr1) tp2)] ++ prv2) → (whl, instObj 740 wd) ∈ prv2 → (wd, oW w.params k sl lt en gv2 tg2) ∈ prv2 → WI w whl wd sl lt en (kT (acts st1) (decide (((nx - ui).fmod 256) = 0)) (sends st1 && np syn fin ((nx - ui).fmod 256) bs.size win mo) (lT tm x0 x1) (now + wt tries) (now + pw pr1)) (bd + 4) (kpL w.params k snd sd pe qu ui nx gr syn fin pd win mo qd bs clk cd est tries ed) prv2 → OwnOff prv2 [tcb, td] → OwnOff prv2 [L0 + 1, wi, ti] → R9) → R9)) (fun P9 hP9 => ?_) ?_
    · k_steps
      all_goals (try exact True.intro)
      all_goals unfold StopAt
      all_goals refine' hP9 _ ?_
      all_goals (intro R9 k9; refine' k9 _ _ _ _ _ _ rfl ?F ?N ?m0 ?m1 ?W ?O1 ?O2; (case W => exact WI.mono (by assumption) (by omega)); (case F => k_asm); (case N => k_asm); (case m0 => assumption); (case m1 => assumption); (case O1 => assumption); (case O2 => assumption))
    · rintro s' M9; refine M9 _ ?_; clear M9; rintro h2 tk2 prv2 tp2 gv2 tg2 rfl F3 N3 p0 p1 W3 O3 O4
      clear W1 n0 n1 O1 N2
      simp only [List.cons_append, List.nil_append] at N3
      refine execs_holdP (fun P8 hP8 => ?_)
      k_steps
      unfold Hold
      refine' hP8 _ ?_
      with_reducible rename Fr _ _ _ _ => F4
      refine execs_cutP F4 (fun mm s' => (∀ R9 : Prop, (∀ (u : Str → Option Value) (h2 : Heap) (tk2 : Nat) (Dd : Addr) (v0 v1 c : Int) (t0 t1 tc : Tok) (nd : Nat), s' = { s with heap := h2, toks := tk2 } → Fr g0 L0 h2 (fun y => if y = Str.ofString "due" then some (.ref Dd) else if y = Str.ofString "count" then some (.int c tc) else if y = Str.ofString "is_probed" then u y else if y = Str.ofString "again" then u y else if y = Str.ofString "probe" then u y else mm y) → News g0 L0 h2 ((Dd, listOf [.int v0 t0, .int v1 t1].toArray nd) :: ([(L0 + 1, oc), (wi, listOf [.bool b0, .bool b1, .int z2 tz].toArray nwi), (ti, listOf [.int x0 tx0, .int x1 tx1].toArray nti), (tcb, instObj 804 td), (td, oT w.params k li lo re snd rc clk cg ak whl st1 ts1 (kP (acts st1) (sends st1 && np syn fin ((nx - ui).fmod 256) bs.size win mo) pr1) tp2)] ++ prv2)) → v0 = d0S (acts st1) x0 (now + z2) b0 → v1 = d0S (acts st1) x1 (now + pw pr1) (b1 && sends st1) → c = cS (acts st1) pr1 (b1 && sends st1) → R9) → R9)) (fun P9 hP9 => ?_) ?_
      · k_steps
        all_goals (try exact True.intro)
        all_goals unfold StopAt
        all_goals refine' hP9 _ ?_
        all_goals (intro R9 k9; refine' k9 _ _ _ _ _ _ _ _ _ _ _ rfl (over2_fr ?F ?vd ?vc ?e) (news_two ?N ?h1 ?hs) ?q0 ?q1 ?q2; (case F => k_asm); (case vd => exact rfl); (case vc => exact rfl); (case e => (intro y hy1 hy2 hy3 hy4 hy5; simp only [if_neg hy1, if_neg hy2, if_neg hy3, if_neg hy4, if_neg hy5])); (case N => k_asm); (case h1 => k_mem); (case hs => first | exact fun _ h => (List.Mem.tail _ h) | exact fun _ h => (List.Mem.tail _ (List.Mem.tail _ h)) | exact fun _ h => (List.Mem.tail _ (List.Mem.tail _ (List.Mem.tail _ h))) | exact fun _ h => (List.Mem.tail _ (List.Mem.tail _ (List.Mem.tail _ (List.Mem.tail _ h)))) | exact fun _ h => (List.Mem.tail _ (List.Mem.tail _ (List.Mem.tail _ (List.Mem.tail _ (List.Mem.tail _ h))))) | exact fun _ h => (List.Mem.tail _ (List.Mem.tail _ (List.Mem.tail _ (List.Mem.tail _ (List.Mem.tail _ (List.Mem.tail _ h)))))) | exact fun _ h => (List.Mem.tail _ (List.Mem.tail _ (List.Mem.tail _ (List.Mem.tail _ (List.Mem.tail _ (List.Mem.tail _ (List.Mem.tail _ h))))))) | exact fun _ h => (List.Mem.tail _ (List.Mem.tail _ (List.Mem.tail _ (List.Mem.tail _ (List.Mem.tail _ (List.Mem.tail _ (List.Mem.tail _ (List.Mem.tail _ h)))))))) | exact fun _ h => (List.Mem.tail _ (List.Mem.tail _ (List.Mem.tail _ (List.Mem.tail _ (List.Mem.tail _ (List.Mem.tail _ (List.Mem.tail _ (List.Mem.tail _ (List.Mem.tail _ h))))))))) | exact fun _ h => (List.Mem.tail _ (List.Mem.tail _ (List.Mem.tail _ (List.Mem.tail _ (List.Mem.tail _ (List.Mem.tail _ (List.Mem.tail _ (List.Mem.tail _ (List.Mem.tail _ (List.Mem.tail _ h))))))))))); (case q0 => first | exact d0S_f (ac_f (by assumption)) | exact d0S_t (ac_t (by assumption))); (case q1 => first | exact d0S_f (ac_f (by assumption)) | exact d1S_t (ac_t (by assumption)) (pw_of hp0 hp1 (by assumption) (by assumption) (by assumption))); (case q2 => first | exact cS_f (ac_f (by assumption)) | exact cS_t (ac_t (by assumption))))
      · rintro s' M9; refine M9 _ ?_; clear M9; rintro u5 h5 tk5 Dd v0 v1 c t0 t1 tc nd rfl F5 N5 q0 q1 q2
        simp only [List.cons_append, List.nil_append] at N5
        have f1 : tv (kT (acts st1) (decide (((nx - ui).fmod 256) = 0)) (sends st1 && np syn fin ((nx - ui).fmod 256) bs.size win mo) (lT tm x0 x1) (now + wt tries) (now + pw pr1)) 1 = v0 := by rw [law_1 hx0, q0, e2, e0]
        have f2 : tv (kT (acts st1) (decide (((nx - ui).fmod 256) = 0)) (sends st1 && np syn fin ((nx - ui).fmod 256) bs.size win mo) (lT tm x0 x1) (now + wt tries) (now + pw pr1)) 2 = v1 := by rw [law_2 hx1, q1, e1, Bool.and_comm]
        have f3 : tv (kT (acts st1) (decide (((nx - ui).fmod 256) = 0)) (sends st1 && np syn fin ((nx - ui).fmod 256) bs.size win mo) (lT tm x0 x1) (now + wt tries) (now + pw pr1)) 3 = 0 := by unfold tv; rw [kT_hi (by decide) (by decide), h3]; rfl
        have f4 : tv (kT (acts st1) (decide (((nx - ui).fmod 256) = 0)) (sends st1 && np syn fin ((nx - ui).fmod 256) bs.size win mo) (lT tm x0 x1) (now + wt tries) (now + pw pr1)) 4 = 0 := by unfold tv; rw [kT_hi (by decide) (by decide), h4]; rfl
        have f5 : kP (acts st1) (sends st1 && np syn fin ((nx - ui).fmod 256) bs.size win mo) pr1 = c := by rw [law_c, q2, e1, Bool.and_comm]
        k_steps
        all_goals (refine' q_true ?qe1 ?_; (case qe1 => first | exact beq_self_eq_true _ | exact beq_iff_eq.mpr f5 | exact decide_eq_true (list4 f1 f2 f3 f4)))
        all_goals (refine' hret prv2 tp2 gv2 tg2 _ _ ?m0 ?m1 ?W ?O (own_tl O4) ?kb ?nw ?F ?N; (case W => assumption); (case m0 => assumption); (case m1 => assumption); (case O => assumption); (case F => k_asm); (case N => (refine' news_sub ?zN ?zS; (case zN => k_asm); (case zS => first | exact fun _ h => h | exact fun _ h => (List.Mem.tail _ h) | exact fun _ h => (List.Mem.tail _ (List.Mem.tail _ h)) | exact fun _ h => (List.Mem.tail _ (List.Mem.tail _ (List.Mem.tail _ h))) | exact fun _ h => (List.Mem.tail _ (List.Mem.tail _ (List.Mem.tail _ (List.Mem.tail _ h)))) | exact fun _ h => (List.Mem.tail _ (List.Mem.tail _ (List.Mem.tail _ (List.Mem.tail _ (List.Mem.tail _ h))))) | exact fun _ h => (List.Mem.tail _ (List.Mem.tail _ (List.Mem.tail _ (List.Mem.tail _ (List.Mem.tail _ (List.Mem.tail _ h)))))) | exact fun _ h => (List.Mem.tail _ (List.Mem.tail _ (List.Mem.tail _ (List.Mem.tail _ (List.Mem.tail _ (List.Mem.tail _ (List.Mem.tail _ h))))))) | exact fun _ h => (List.Mem.tail _ (List.Mem.tail _ (List.Mem.tail _ (List.Mem.tail _ (List.Mem.tail _ (List.Mem.tail _ (List.Mem.tail _ (List.Mem.tail _ h)))))))) | exact fun _ h => (List.Mem.tail _ (List.Mem.tail _ (List.Mem.tail _ (List.Mem.tail _ (List.Mem.tail _ (List.Mem.tail _ (List.Mem.tail _ (List.Mem.tail _ (List.Mem.tail _ h))))))))) | exact fun _ h => (List.Mem.tail _ (List.Mem.tail _ (List.Mem.tail _ (List.Mem.tail _ (List.Mem.tail _ (List.Mem.tail _ (List.Mem.tail _ (List.Mem.tail _ (List.Mem.tail _ (List.Mem.tail _ h)))))))))) | exact fun _ h => (List.Mem.tail _ (List.Mem.tail _ (List.Mem.tail _ (List.Mem.tail _ (List.Mem.tail _ (List.Mem.tail _ (List.Mem.tail _ (List.Mem.tail _ (List.Mem.tail _ (List.Mem.tail _ (List.Mem.tail _ h))))))))))) | exact fun _ h => (List.Mem.tail _ (List.Mem.tail _ (List.Mem.tail _ (List.Mem.tail _ (List.Mem.tail _ (List.Mem.tail _ (List.Mem.tail _ (List.Mem.tail _ (List.Mem.tail _ (List.Mem.tail _ (List.Mem.tail _ (List.Mem.tail _ h)))))))))))) | exact fun _ h => (List.Mem.tail _ (List.Mem.tail _ (List.Mem.tail _ (List.Mem.tail _ (List.Mem.tail _ (List.Mem.tail _ (List.Mem.tail _ (List.Mem.tail _ (List.Mem.tail _ (List.Mem.tail _ (List.Mem.tail _ (List.Mem.tail _ (List.Mem.tail _ h))))))))))))) | exact fun _ h => (List.Mem.tail _ (List.Mem.tail _ (List.Mem.tail _ (List.Mem.tail _ (List.Mem.tail _ (List.Mem.tail _ (List.Mem.tail _ (List.Mem.tail _ (List.Mem.tail _ (List.Mem.tail _ (List.Mem.tail _ (List.Mem.tail _ (List.Mem.tail _ (List.Mem.tail _ h)))))))))))))) | exact fun _ h => (List.Mem.tail _ (List.Mem.tail _ (List.Mem.tail _ (List.Mem.tail _ (List.Mem.tail _ (List.Mem.tail _ (List.Mem.tail _ (List.Mem.tail _ (List.Mem.tail _ (List.Mem.tail _ (List.Mem.tail _ (List.Mem.tail _ (List.Mem.tail _ (List.Mem.tail _ (List.Mem.tail _ h)))))))))))))))))); (case kb => refine' (frame_end (g := g0) (L' := L0) (foot := []) ?fe1 ?fe2 (fun _ hq => nomatch hq) hg).1; (case fe1 => assumption); (case fe2 => assumption)); (case nw => refine' (frame_end (g := g0) (L' := L0) ?fe1 ?fe2 ?fe3 hg).2; (case fe1 => assumption); (case fe2 => assumption); (case fe3 => first | exact fun _ h => h | exact fun _ h => (List.Mem.tail _ h) | exact fun _ h => (List.Mem.tail _ (List.Mem.tail _ h)) | exact fun _ h => (List.Mem.tail _ (List.Mem.tail _ (List.Mem.tail _ h))) | exact fun _ h => (List.Mem.tail _ (List.Mem.tail _ (List.Mem.tail _ (List.Mem.tail _ h)))) | exact fun _ h => (List.Mem.tail _ (List.Mem.tail _ (List.Mem.tail _ (List.Mem.tail _ (List.Mem.tail _ h))))) | exact fun _ h => (List.Mem.tail _ (List.Mem.tail _ (List.Mem.tail _ (List.Mem.tail _ (List.Mem.tail _ (List.Mem.tail _ h)))))) | exact fun _ h => (List.Mem.tail _ (List.Mem.tail _ (List.Mem.tail _ (List.Mem.tail _ (List.Mem.tail _ (List.Mem.tail _ (List.Mem.tail _ h))))))) | exact fun _ h => (List.Mem.tail _ (List.Mem.tail _ (List.Mem.tail _ (List.Mem.tail _ (List.Mem.tail _ (List.Mem.tail _ (List.Mem.tail _ (List.Mem.tail _ h)))))))) | exact fun _ h => (List.Mem.tail _ (List.Mem.tail _ (List.Mem.tail _ (List.Mem.tail _ (List.Mem.tail _ (List.Mem.tail _ (List.Mem.tail _ (List.Mem.tail _ (List.Mem.tail _ h))))))))) | exact fun _ h => (List.Mem.tail _ (List.Mem.tail _ (List.Mem.tail _ (List.Mem.tail _ (List.Mem.tail _ (List.Mem.tail _ (List.Mem.tail _ (List.Mem.tail _ (List.Mem.tail _ (List.Mem.tail _ h)))))))))) | exact fun _ h => (List.Mem.tail _ (List.Mem.tail _ (List.Mem.tail _ (List.Mem.tail _ (List.Mem.tail _ (List.Mem.tail _ (List.Mem.tail _ (List.Mem.tail _ (List.Mem.tail _ (List.Mem.tail _ (List.Mem.tail _ h))))))))))) | exact fun _ h => (List.Mem.tail _ (List.Mem.tail _ (List.Mem.tail _ (List.Mem.tail _ (List.Mem.tail _ (List.Mem.tail _ (List.Mem.tail _ (List.Mem.tail _ (List.Mem.tail _ (List.Mem.tail _ (List.Mem.tail _ (List.Mem.tail _ h)))))))))))) | exact fun _ h => (List.Mem.tail _ (List.Mem.tail _ (List.Mem.tail _ (List.Mem.tail _ (List.Mem.tail _ (List.Mem.tail _ (List.Mem.tail _ (List.Mem.tail _ (List.Mem.tail _ (List.Mem.tail _ (List.Mem.tail _ (List.Mem.tail _ (List.Mem.tail _ h))))))))))))) | exact fun _ h => (List.Mem.tail _ (List.Mem.tail _ (List.Mem.tail _ (List.Mem.tail _ (List.Mem.tail _ (List.Mem.tail _ (List.Mem.tail _ (List.Mem.tail _ (List.Mem.tail _ (List.Mem.tail _ (List.Mem.tail _ (List.Mem.tail _ (List.Mem.tail _ (List.Mem.tail _ h)))))))))))))) | exact fun _ h => (List.Mem.tail _ (List.Mem.tail _ (List.Mem.tail _ (List.Mem.tail _ (List.Mem.tail _ (List.Mem.tail _ (List.Mem.tail _ (List.Mem.tail _ (List.Mem.tail _ (List.Mem.tail _ (List.Mem.tail _ (List.Mem.tail _ (List.Mem.tail _ (List.Mem.tail _ (List.Mem.tail _ h))))))))))))))))))
end
-- T6b
section
theorem norowsT6b : True := by
  k_with_none
  exact True.intro
theorem state_rightW {w : World} {mean : ExcName → Option Value} {mg mb : Str → Option Value} (dp un : Nat) (gd : Option (List Code)) (cn : Str) (cs : Scope) (a : Addr) (ccd : Value) (cl : List (Str × Addr)) (outer : List Env) (A₀ : Around) (base h₀ : Heap) (L : Addr) (m : Str → Option Value) (s : Shared) (Q E : Value → Shared → Prop)
    (k : Nat → Tok) (snd sd pe qu : Addr) (ui nx gr : Int) (syn fin : Bool) (pd : Addr) (win mo : Int) (qd : Addr) (bs : Array UInt8) (clk cd est : Addr) (tries : Int) (ed : Addr) (tcb td li lo re rc cg ak : Addr) (st : Str) (ts : Tok) (pr : Int) (tp : Tok) (whl wd sl lt en : Addr) (gv : Int) (tg : Tok) (tm : Int → Option Int) (bd : Nat) (prv : List (Addr × Obj)) (now : Int) (tn : Tok) (wi ti : Addr) (b0 b1 : Bool) (z2 x0 x1 : Int) (tz tx0 tx1 : Tok) (nwi nti : Nat) (pr1 : Int) (tp1 : Tok) (st1 : Str) (ts1 : Tok) (news loc : List (Addr × Obj))
    (B : Below A₀ base outer h₀) (F : Fr h₀ L s.heap m) (X : (Tr.pre.heap_1_39 w.params).In h₀) (N : News h₀ L s.heap news)
    (T : Top Tr.pre.view_1_40 (looseW Tr.pre.view_1_40 [Str.ofString "Sender", Str.ofString "Tcb"]) mean mg mb h₀) (hk : cs.kind = .function) (hdp : dp + 12 < recursionLimit) (sp : Spl ((tcb, instObj 804 td) :: (td, oT w.params k li lo re snd rc clk cg ak whl st ts pr tp) :: prv) news loc) (mw : (wi, listOf [.bool b0, .bool b1, .int z2 tz].toArray nwi) ∈ loc) (mt : (ti, listOf [.int x0 tx0, .int x1 tx1].toArray nti) ∈ loc) (m0 : (whl, instObj 740 wd) ∈ prv) (m1 : (wd, oW w.params k sl lt en gv tg) ∈ prv) (WS : WSt whl wd sl lt en) (W : WI w whl wd sl lt en tm bd (kpL w.params k snd sd pe qu ui nx gr syn fin pd win mo qd bs clk cd est tries ed) prv) (off : OwnOff prv (loc.map (·.1))) (offT : OwnOff prv [tcb, td]) (a1 : AllNe tcb (loc.map (·.1))) (a2 : AllNe td (loc.map (·.1))) (hbd : bd ≤ 800) (dtt : @Ne Nat td tcb) (hs : bs.size ≤ 40) (hw : 0 ≤ win) (htr : tries = 0 ∨ tries = 1 ∨ tries = 2) (hp0 : 0 ≤ pr1) (hp1 : pr1 < 8) (hx0 : 0 ≤ x0) (hx1 : 0 ≤ x1) (h3 : tm 3 = none) (h4 : tm 4 = none) (e0 : b0 = !decide (((nx - ui).fmod 256) = 0)) (e1 : b1 = np syn fin ((nx - ui).fmod 256) bs.size win mo) (e2 : z2 = wt tries) (hun : un + 1000 < cLine)
    (hret : ∀ prv2 tp2 gv2 tg2 h' tk', (whl, instObj 740 wd) ∈ prv2 → (wd, oW w.params k sl lt en gv2 tg2) ∈ prv2 → WI w whl wd sl lt en (kT (acts st1) (decide (((nx - ui).fmod 256) = 0)) (sends st1 && np syn fin ((nx - ui).fmod 256) bs.size win mo) (lT tm x0 x1) (now + wt tries) (now + pw pr1)) (bd + 4) (kpL w.params k snd sd pe qu ui nx gr syn fin pd win mo qd bs clk cd est tries ed) prv2 → OwnOff prv2 [tcb, td] → OwnOff prv2 (loc.map (·.1)) → Fr h₀ L h' m → News h₀ L h' (loc ++ ((tcb, instObj 804 td) :: (td, oT w.params k li lo re snd rc clk cg ak whl st1 ts1 (kP (acts st1) (sends st1 && np syn fin ((nx - ui).fmod 256) bs.size win mo) pr1) tp2) :: prv2)) → Q (.bool true) { s with heap := h', toks := tk' }) :
    wpAny (model Challenge.rw_xw0347_01.row.prog w) (ktrTop dp un gd cn cs L a ccd cl outer) (call (.ref 1092) [.ref tcb, .str st1 ts1, .ref wi, .ref ti, .int pr1 tp1, .int now tn]) Q E s := by
  have iw : wi ∈ loc.map (·.1) := List.mem_map_of_mem mw
  have it : ti ∈ loc.map (·.1) := List.mem_map_of_mem mt
  have inl : ∀ p ∈ loc, p ∈ news := fun p hp => by rw [sp.eq]; exact List.mem_append_left _ hp
  have inr : ∀ p ∈ ((tcb, instObj 804 td) :: (td, oT w.params k li lo re snd rc clk cg ak whl st ts pr tp) :: prv), p ∈ news := fun p hp => sp.sub p hp
  have offA : OwnOff prv [wi, ti, tcb, td] := fun p hp b hb => by
    rcases List.mem_cons.mp hb with rfl | hb
    · exact off p hp _ iw
    · rcases List.mem_cons.mp hb with rfl | hb
      · exact off p hp _ it
      · exact offT p hp b hb
  have N6 : News h₀ L s.heap ((wi, listOf [.bool b0, .bool b1, .int z2 tz].toArray nwi) :: (ti, listOf [.int x0 tx0, .int x1 tx1].toArray nti) :: (tcb, instObj 804 td) :: (td, oT w.params k li lo re snd rc clk cg ak whl st ts pr tp) :: prv) := fun p hp => by
    rcases List.mem_cons.mp hp with rfl | hp
    · exact N _ (inl _ mw)
    · rcases List.mem_cons.mp hp with rfl | hp
      · exact N _ (inl _ mt)
      · exact N p (inr p hp)
  refine state_right_ok dp un gd cn cs a ccd cl outer A₀ base h₀ L m s Q E k snd sd pe qu ui nx gr syn fin pd win mo qd bs clk cd est tries ed tcb td li lo re rc cg ak st ts pr tp whl wd sl lt en gv tg tm bd prv now tn wi ti b0 b1 z2 x0 x1 tz tx0 tx1 nwi nti pr1 tp1 st1 ts1 B F X N6 T hk hdp m0 m1 WS W offA hbd dtt hs hw htr hp0 hp1 (a2.ne _ iw) (a2.ne _ it) (a1.ne _ iw) (a1.ne _ it) hx0 hx1 h3 h4 e0 e1 e2 hun (fun prv2 tp2 gv2 tg2 h' tk' n0 n1 n2 n3 n4 kb nw F' N' => ?_)
  have gw : h'.get? wi = some (listOf [.bool b0, .bool b1, .int z2 tz].toArray nwi) := (N' _ (.head _)).1
  have gt : h'.get? ti = some (listOf [.int x0 tx0, .int x1 tx1].toArray nti) := (N' _ (.tail _ (.head _))).1
  have kb2 : KeepBut s.heap h' (((tcb, instObj 804 td) :: (td, oT w.params k li lo re snd rc clk cg ak whl st ts pr tp) :: prv).map (·.1)) := fun b o hb hn => by
    by_cases h1 : b = wi
    · subst h1
      have := (N _ (inl _ mw)).1
      dsimp only at this
      rw [this] at hb
      rw [gw]; exact hb
    · by_cases h2 : b = ti
      · subst h2
        have := (N _ (inl _ mt)).1
        dsimp only at this
        rw [this] at hb
        rw [gt]; exact hb
      · refine kb b o hb fun hm => ?_
        rcases List.mem_cons.mp hm with hm | hm
        · exact h1 hm
        · rcases List.mem_cons.mp hm with hm | hm
          · exact h2 hm
          · exact hn hm
  have nw2 : NewOr s.heap (((tcb, instObj 804 td) :: (td, oT w.params k li lo re snd rc clk cg ak whl st ts pr tp) :: prv).map (·.1)) ((tcb, instObj 804 td) :: (td, oT w.params k li lo re snd rc clk cg ak whl st1 ts1 (kP (acts st1) (sends st1 && np syn fin ((nx - ui).fmod 256) bs.size win mo) pr1) tp2) :: prv2) := fun q hq => by
    rcases nw q (.tail _ (.tail _ hq)) with hm | hm
    · have hne : q.1 ≠ wi ∧ q.1 ≠ ti := by
        rcases List.mem_cons.mp hq with rfl | hq
        · exact ⟨a1.ne _ iw, a1.ne _ it⟩
        · rcases List.mem_cons.mp hq with rfl | hq
          · exact ⟨a2.ne _ iw, a2.ne _ it⟩
          · exact ⟨n4 q hq _ (.head _), n4 q hq _ (.tail _ (.head _))⟩
      rcases List.mem_cons.mp hm with hm | hm
      · exact absurd hm hne.1
      · rcases List.mem_cons.mp hm with hm | hm
        · exact absurd hm hne.2
        · exact .inl hm
    · exact .inr hm
  obtain ⟨NN, OO⟩ := tail_after N sp (off_two a1 a2 off) kb2 nw2 (fun p hp => N' p (.tail _ (.tail _ hp)))
  exact hret prv2 tp2 gv2 tg2 h' tk' n0 n1 n2 n3 (fun p hp => OO p (.tail _ (.tail _ hp))) F' NN
end
-- T7
section
theorem ints_at : ∀ {vs : List Value} {ns : List Int} {k : Int}, IntsAre vs ns → 0 ≤ k → k < vs.length → ∃ i t, vs[k.toNat]? = some (.int i t) ∧ i ∈ ns := by
  intro vs ns k h h0 h1
  have key : ∀ (j : Nat) {vs : List Value} {ns : List Int}, IntsAre vs ns → j < vs.length → ∃ i t, vs[j]? = some (.int i t) ∧ i ∈ ns := by
    intro j
    induction j with
    | zero =>
      intro vs ns h hj
      cases h with
      | nil => exact absurd hj (Nat.lt_irrefl _)
      | cons i t h => exact ⟨i, t, rfl, .head _⟩
    | succ j ih =>
      intro vs ns h hj
      cases h with
      | nil => exact absurd hj (Nat.not_lt_zero _)
      | cons i t h =>
        obtain ⟨i', t', a, b⟩ := ih h (Nat.lt_of_succ_lt_succ hj)
        exact ⟨i', t', a, .tail _ b⟩
  exact key k.toNat h (by omega)
theorem hypAll {l : Addr × Obj} {g : Obj → List (Addr × Obj)} {o : Obj} (h : ∀ o, l ∈ g o) : l ∈ g o := h o
theorem it_ints {prog : Program} {w : World} {A : Around} {E : Value → Shared → Prop} {s : Shared} {h₀ : Heap} {L l : Addr} {news : List (Addr × Obj)} {vs : List Value} {ns : List Int} {n : Nat} {k : Int} {u : Tok} {value slice : PySem.Expr} {Q : Value → Shared → Prop} (N : News h₀ L s.heap news) (hm : (l, listOf vs.toArray n) ∈ news) (hi : IntsAre vs ns) (h0 : 0 ≤ k) (h1 : k < vs.length) (h2 : (vs.length : Int) ≤ 64)
    (h : ∀ i t, i ∈ ns → Q (.int i t) s) (hs : subscripted slice false (.ref l) (.int k u) = operate [.ref l, .int k u] (getItem (.ref l) (.int k u)) := by with_unfolding_all rfl) :
    wpAny (model prog w) A (subscriptTail value slice (.ref l) (.int k u)) Q E s := by
  obtain ⟨i, t, a, b⟩ := ints_at hi h0 h1
  exact it_lit N hm h0 (by omega) a (h i t b) hs
theorem len_one {prog : Program} {w : World} {A : Around} {E : Value → Shared → Prop} {s : Shared} {h₀ : Heap} {L a : Addr} {news : List (Addr × Obj)} {vs : List Value} {n : Nat} {Q : Value → Shared → Prop} (N : News h₀ L s.heap news) (hm : (a, listOf vs.toArray n) ∈ news) (hf : (vs.length : Int) ≤ 64)
    (h : Q (.int vs.length (s.toks + 1)) { s with toks := s.toks + 1 + 1 }) : wpAny (model prog w) A (call (.builtin "len") [.ref a]) Q E s :=
  call_len_list (News.isList N hm) (by show ((vs.toArray.size : Nat) : Int) < _; rw [List.size_toArray]; omega) (by rw [List.size_toArray]; exact h)
theorem rowsT7x1 : True := by
  k_with_none
  k_with "data" => (repeat ((fail_if_success (refine Classical.byContradiction ?_)); rotate_left))
  k_with "callWith ref" => (k_here; k_dflt (refine' callWith_K (by with_reducible assumption) (by k_is) ?_; k_whole))
  k_with "callWith ref" => (k_here; (with_reducible show wpAny _ _ (callWith _ _ _ (backTo _ (starEach [] _)) []) _ _ _); (with_reducible rename Fr _ _ _ _ => kF); k_dflt (refine' callWith_K0 (Frag.In.keeps (by with_reducible assumption) (Fr.keep kF)) (by k_is) ?_; k_whole))
  k_with "call ref" => (k_here; (with_reducible show wpAny _ _ (call (Value.ref 1066) _) _ _ _); k_dflt ((refine' takeW _ _ _ _ _ _ _ _ _ _ _ _ _ _ _ _ _ _ _ _ _ _ _ _ _ _ _ (by k_asm) (by k_asm) (by k_asm) (by k_asm) (by k_asm) (by first | exact rfl | assumption) (by ktr_room) (by first | assumption | k_updF) (by assumption) (by assumption) (by assumption) (by first | assumption | decide) (by first | assumption | decide) ?_; (intro kt tkt x9 y9 tx9 ty9 n9 h9 tk9 hk1 hk2 hx9 hy9 hy9b F9 N9); (try k_sweep); (try dsimp only); (try k_fold))))
  k_with "subscriptTail" => (k_here; (with_reducible show wpAny _ _ (subscriptTail _ _ (Value.ref _) (Value.int _ _)) _ _ _); k_dflt ((refine' it_ints (by k_asm) (by first | assumption | exact hypAll (by assumption)) (by assumption) (by assumption) (by first | assumption | decide) (by first | assumption | decide) ?_ (by with_unfolding_all rfl); (intro iv itk hi2))))
  k_with "call builtin:len" => (k_here; k_dflt ((refine' len_one (by k_asm) (by assumption) (by assumption) ?_)))
  exact True.intro
set_option maxRecDepth 100000 in
set_option maxHeartbeats 8000000 in
theorem one_ok {w : World} {mean : ExcName → Option Value} {mg mb : Str → Option Value} (dp un : Nat) (gd : Option (List Code)) (cn : Str) (cs : Scope) (a : Addr) (ccd : Value) (cl : List (Str × Addr)) (outer : List Env) (A₀ : Around) (base h₀ : Heap) (L : Addr) (m : Str → Option Value) (s : Shared) (Q E : Value → Shared → Prop)
    (l th : Addr) (x y : Int) (tx ty : Tok) (n n2 : Nat) (vs : List Value) (ns : List Int) (news : List (Addr × Obj)) (g : Obj → List (Addr × Obj))
    (B : Below A₀ base outer h₀) (F : Fr h₀ L s.heap m) (X : (Tr.pre.heap_1_39 w.params).In h₀) (N : News h₀ L s.heap news)
    (T : Top Tr.pre.view_1_40 (looseW Tr.pre.view_1_40 [Str.ofString "Sender", Str.ofString "Tcb"]) mean mg mb h₀) (hk : cs.kind = .function) (hdp : dp + 2 < recursionLimit) (U : UpdF l (listOf [.int x tx, .int y ty].toArray n) news g) (mt : (th, listOf vs.toArray n2) ∈ news) (mt2 : ∀ o, (th, listOf vs.toArray n2) ∈ g o) (hi : IntsAre vs ns) (hx : 0 ≤ x) (hy : 0 ≤ y) (hy2 : y < 2147483647) (ht : 0 < (vs.length : Int)) (ht2 : (vs.length : Int) ≤ 64)
    (hret : ∀ k tk x' y' tx' ty' n' h' tk', k ∈ ns → 0 ≤ x' → 0 ≤ y' → y' < 2147483647 → Fr h₀ L h' m → News h₀ L h' (g (listOf [.int x' tx', .int y' ty'].toArray n')) → Q (.int k tk) { s with heap := h', toks := tk' }) :
    wpAny (model Challenge.rw_xw0347_01.row.prog w) (ktrTop dp un gd cn cs L a ccd cl outer) (call (.ref 1073) [.ref l, .ref th]) Q E s := by
  revert X; k_fill; intro X
  refine wpAny_call ?_
  k_dflt ktr_enter
  k_steps
  refine' hret _ _ _ _ _ _ _ _ _ ?a ?b ?c ?d ?e ?f; (case f => assumption); (case e => assumption); (case a => assumption); (case b => assumption); (case c => assumption); (case d => assumption)
end
-- T8
section
theorem Q_bool {Q : Value → Shared → Prop} {s : Shared} {a b : Bool} (e : a = b) (h : Q (.bool b) s) : Q (.bool a) s := e ▸ h
theorem prb_a {fin : Bool} {rest w0 w1 : Int} (h : rest = 0) (h1 : fin = true) : (w1 == 0) = prb fin rest w1 w0 := by unfold prb; rw [if_pos h, h1]; simp [BEq.beq]
theorem prb_b {fin : Bool} {rest w0 w1 : Int} (h : rest = 0) (h1 : fin = false) : fin = prb fin rest w1 w0 := by unfold prb; rw [if_pos h, h1]; simp
theorem prb_c {fin : Bool} {rest w0 w1 : Int} (h : rest ≠ 0) (h1 : w1 = 0) : (w1 == 0) = prb fin rest w1 w0 := by unfold prb; rw [if_neg h]; simp [h1]
theorem prb_d {fin : Bool} {rest w0 w1 r : Int} (h : rest ≠ 0) (h1 : w1 ≠ 0) (c : w1 < r) (a : r ≤ rest) (b : r ≤ 4) : decide (2 * w1 < w0) = prb fin rest w1 w0 := by
  unfold prb; rw [if_neg h]
  have h3 : w1 < 4 ∧ w1 < rest := by omega
  simp [h1, h3.1, h3.2]
theorem prb_e {fin : Bool} {rest w0 w1 r : Int} (h : rest ≠ 0) (h1 : w1 ≠ 0) (c : ¬ w1 < r) (a : r = rest ∨ r = 4) : decide (w1 < r) = prb fin rest w1 w0 := by
  unfold prb; rw [if_neg h]
  have h3 : ¬ (w1 < 4 ∧ w1 < rest ∧ 2 * w1 < w0) := by omega
  simp only [h1, h3, c, or_false]
theorem wt_at {tries : Int} (h : tries = 0 ∨ tries = 1 ∨ tries = 2) : ([10, 20, 40] : List Int).getD tries.toNat 0 = wt tries := by rcases h with rfl | rfl | rfl <;> rfl
theorem news_drop2 {h₀ h : Heap} {L : Addr} {a b : Addr × Obj} {news : List (Addr × Obj)} (N : News h₀ L h (a :: b :: news)) : News h₀ L h (a :: news) := fun p hp => by
  rcases List.mem_cons.mp hp with rfl | hp
  · exact N _ (.head _)
  · exact N p (.tail _ (.tail _ hp))
theorem pool_x {r : Int} {b : Bool} (h : 0 ≤ r) : 0 ≤ r * (if b = true then 1 else 0) := by cases b <;> simp [h]
theorem arg_list {A : Around} {base g h : Heap} {outer : List Env} {L sa : Addr} {m : Str → Option Value} {xs : Array Value} (B : Below A base outer g) (F : Fr g L h m) (hL : base.IsList sa xs) : h.IsList sa xs := by
  obtain ⟨o, ho, r⟩ := hL
  exact ⟨o, F.keep _ _ (B.stays _ _ ho), r⟩
theorem it0_arg {prog : Program} {w : World} {A : Around} {E : Value → Shared → Prop} {s : Shared} {l : Addr} {items : List Value} {ns : List Int} {u : Tok} {value slice : PySem.Expr} {Q : Value → Shared → Prop} (hL : s.heap.IsList l items.toArray) (hi : IntsAre items ns) (hne : decide (ns = []) = false)
    (h : ∀ i t, Q (.int i t) s) (hs : subscripted slice false (.ref l) (.int 0 u) = operate [.ref l, .int 0 u] (getItem (.ref l) (.int 0 u)) := by with_unfolding_all rfl) :
    wpAny (model prog w) A (subscriptTail value slice (.ref l) (.int 0 u)) Q E s := by
  cases hi with
  | nil => simp at hne
  | cons i t r => exact tail_any hL.typeIs slot_list_getitem.lookup (wpAny_getItem_list hL (by decide) (by decide) (by simp) (h i t)) hs
theorem rowsT8x1 : True := by
  k_with_none
  k_with "data" => (repeat ((fail_if_success (refine Classical.byContradiction ?_)); rotate_left))
  k_with "callWith ref" => (k_here; k_dflt (refine' callWith_K (by with_reducible assumption) (by k_is) ?_; k_whole))
  k_with "callWith ref" => (k_here; (with_reducible show wpAny _ _ (callWith _ _ _ (backTo _ (starEach [] _)) []) _ _ _); (with_reducible rename Fr _ _ _ _ => kF); k_dflt (refine' callWith_K0 (Frag.In.keeps (by with_reducible assumption) (Fr.keep kF)) (by k_is) ?_; k_whole))
  k_with "call builtin:min" => (k_here; (with_reducible show wpAny _ _ (call (Value.builtin _) [Value.int _ _, Value.int _ _]) _ _ _); (with_unfolding_all refine' min2_K (by with_unfolding_all rfl) (by k_asm) (by k_asm) ?_; k_whole); (intro h' tk' r9 tr9 hr1 hr2 hr3 F' N'); (try k_sweep))
  k_with "call builtin:max" => (k_here; (with_reducible show wpAny _ _ (call (Value.builtin _) [Value.int _ _, Value.int _ _]) _ _ _); (with_unfolding_all refine' max2_K (by with_unfolding_all rfl) (by k_asm) (by k_asm) ?_; k_whole); (intro h' tk' r9 tr9 hr1 hr2 hr3 F' N'); (try k_sweep))
  k_with "call builtin:min" => (k_here; (with_reducible show wpAny _ _ (call (Value.builtin _) [Value.int _ _, Value.int _ _, Value.int _ _]) _ _ _); (with_unfolding_all refine' min3_K (by with_unfolding_all rfl) (by k_asm) (by k_asm) ?_; k_whole); (intro h' tk' r9 tr9 hr1 hr2 hr3 hr4 F' N'); (try k_sweep))
  k_with "compareOp NotEq ref ref" => (k_here; (with_reducible show wpAny _ _ (compareOp CmpOp.NotEq (Value.ref _) (Value.ref _)) _ _ _); k_dflt ((refine' ke_ne_ints (by exact arg_list (by assumption) (by assumption) (by assumption)) (News.isList (by k_asm) (by k_mem)) (by assumption) IntsAre.nil (by units_room) ?_)))
  k_with "subscriptTail Name Constant ref int" => (k_here; (with_reducible show wpAny _ _ (subscriptTail _ _ (Value.ref _) (Value.int 0 _)) _ _ _); k_dflt ((refine' it0_arg (by exact arg_list (by assumption) (by assumption) (by assumption)) (by assumption) (by assumption) ?_ (by with_unfolding_all rfl); (intro iv it))))
  exact True.intro
set_option maxRecDepth 100000 in
set_option maxHeartbeats 8000000 in
theorem held_ok {w : World} {mean : ExcName → Option Value} {mg mb : Str → Option Value} (dp un : Nat) (gd : Option (List Code)) (cn : Str) (cs : Scope) (a : Addr) (ccd : Value) (cl : List (Str × Addr)) (outer : List Env) (A₀ : Around) (base h₀ : Heap) (L : Addr) (m : Str → Option Value) (s : Shared) (Q E : Value → Shared → Prop)
    (rest : Int) (tr : Tok) (fin : Bool) (wn : Addr) (w0 w1 : Int) (tw0 tw1 : Tok) (nw : Nat) (news : List (Addr × Obj))
    (B : Below A₀ base outer h₀) (F : Fr h₀ L s.heap m) (X : (Tr.pre.heap_1_39 w.params).In h₀) (N : News h₀ L s.heap news)
    (T : Top Tr.pre.view_1_40 (looseW Tr.pre.view_1_40 [Str.ofString "Sender", Str.ofString "Tcb"]) mean mg mb h₀) (hk : cs.kind = .function)
    (hdp : dp + 2 < recursionLimit) (m0 : (wn, ⟨.type "tuple", none, .seq [.int w0 tw0, .int w1 tw1].toArray nw, #[]⟩) ∈ news) (hr : 0 ≤ rest) (h0 : 0 ≤ w0) (h1 : 0 ≤ w1)
    (hret : ∀  h' tk', Fr h₀ L h' m → News h₀ L h' news → Q (.bool (prb fin rest w1 w0)) { s with heap := h', toks := tk' }) :
    wpAny (model Challenge.rw_xw0347_01.row.prog w) (ktrTop dp un gd cn cs L a ccd cl outer) (call (.ref 1087) [.int rest tr, .bool fin, .ref wn]) Q E s := by
  revert X; k_fill; intro X
  refine wpAny_call ?_
  k_dflt ktr_enter
  k_steps
  · refine Q_bool (b := prb fin rest w1 w0) (prb_a (by assumption) (by assumption)) ?_; exact hret _ _ (by k_asm) (by k_asm)
  · refine Q_bool (b := prb fin rest w1 w0) (prb_b (by assumption) (by assumption)) ?_; exact hret _ _ (by k_asm) (by k_asm)
  · refine Q_bool (b := prb fin rest w1 w0) (prb_c (by assumption) (by assumption)) ?_; exact hret _ _ (by k_asm) (by k_asm)
  · refine Q_bool (b := prb fin rest w1 w0) (prb_d (by assumption) (by assumption) (by assumption) (by assumption) (by assumption)) ?_; exact hret _ _ (by k_asm) (by k_asm)
  · refine Q_bool (b := prb fin rest w1 w0) (prb_e (by assumption) (by assumption) (by assumption) (by assumption)) ?_; exact hret _ _ (by k_asm) (by k_asm)
theorem rowsT8x2 : True := by
  k_with "call ref" => (k_here; (with_reducible show wpAny _ _ (call (Value.ref 1087) _) _ _ _); k_dflt ((refine' held_ok _ _ _ _ _ _ _ _ _ _ _ _ _ _ _ _ _ _ _ _ _ _ _ _ _ _ _ (by k_asm) (by k_asm) (by k_asm) (by k_asm) (by k_asm) (by first | exact rfl | assumption) (by ktr_room) (by first | with_reducible assumption | k_mem) (by assumption) (by assumption) (by assumption) ?_; (intro  h9 tk9 F9 N9); (try k_sweep); (try dsimp only); (try k_fold))))
  exact True.intro
set_option maxRecDepth 100000 in
set_option maxHeartbeats 8000000 in
theorem wishes_ok {w : World} {mean : ExcName → Option Value} {mg mb : Str → Option Value} (dp un : Nat) (gd : Option (List Code)) (cn : Str) (cs : Scope) (a : Addr) (ccd : Value) (cl : List (Str × Addr)) (outer : List Env) (A₀ : Around) (base h₀ : Heap) (L : Addr) (m : Str → Option Value) (s : Shared) (Q E : Value → Shared → Prop)
    (syn : Bool) (gone rest : Int) (tgo tr : Tok) (fin : Bool) (wn : Addr) (w0 w1 : Int) (tw0 tw1 : Tok) (nw : Nat) (tries : Int) (tt : Tok) (news : List (Addr × Obj))
    (B : Below A₀ base outer h₀) (F : Fr h₀ L s.heap m) (X : (Tr.pre.heap_1_39 w.params).In h₀) (N : News h₀ L s.heap news)
    (T : Top Tr.pre.view_1_40 (looseW Tr.pre.view_1_40 [Str.ofString "Sender", Str.ofString "Tcb"]) mean mg mb h₀) (hk : cs.kind = .function)
    (hdp : dp + 4 < recursionLimit) (m0 : (wn, ⟨.type "tuple", none, .seq [.int w0 tw0, .int w1 tw1].toArray nw, #[]⟩) ∈ news) (hr : 0 ≤ rest) (h0 : 0 ≤ w0) (h1 : 0 ≤ w1) (htr : tries = 0 ∨ tries = 1 ∨ tries = 2)
    (hret : ∀ (wl : Addr) (b0 b1 : Bool) (z2 : Int) (tz : Tok) (nl : Nat) h' tk', AllLt wl news → b0 = !(!syn && gone == 0) → b1 = ((!syn && gone == 0) && prb fin rest w1 w0) → z2 = wt tries → Fr h₀ L h' m → News h₀ L h' ((wl, listOf [.bool b0, .bool b1, .int z2 tz].toArray nl) :: news) → Q (.ref wl) { s with heap := h', toks := tk' }) :
    wpAny (model Challenge.rw_xw0347_01.row.prog w) (ktrTop dp un gd cn cs L a ccd cl outer) (call (.ref 1099) [.bool syn, .int gone tgo, .int rest tr, .bool fin, .ref wn, .int tries tt]) Q E s := by
  revert X; k_fill; intro X
  refine wpAny_call ?_
  k_dflt ktr_enter
  k_steps
  · refine' hret _ _ _ _ _ _ _ _ ?zzp1 ?zzb1 ?zzc1 ?zzd1 ?zzF1 ?zzN1; (case zzN1 => refine' news_drop2 ?zzn1; (case zzn1 => k_asm)); (case zzF1 => k_asm); (case zzp1 => exact And.right (by assumption)); (case zzd1 => exact wt_at htr); (case zzb1 => simp [*]); (case zzc1 => simp [*])
  · refine' hret _ _ _ _ _ _ _ _ ?zzp2 ?zzb2 ?zzc2 ?zzd2 ?zzF2 ?zzN2; (case zzN2 => refine' news_drop2 ?zzn2; (case zzn2 => k_asm)); (case zzF2 => k_asm); (case zzp2 => exact And.right (by assumption)); (case zzd2 => exact wt_at htr); (case zzb2 => simp [*]); (case zzc2 => simp [*])
  · refine' hret _ _ _ _ _ _ _ _ ?zzp3 ?zzb3 ?zzc3 ?zzd3 ?zzF3 ?zzN3; (case zzN3 => refine' news_drop2 ?zzn3; (case zzn3 => k_asm)); (case zzF3 => k_asm); (case zzp3 => exact And.right (by assumption)); (case zzd3 => exact wt_at htr); (case zzb3 => simp [*]); (case zzc3 => simp [*])
set_option maxRecDepth 100000 in
set_option maxHeartbeats 8000000 in
theorem pool_ok {w : World} {mean : ExcName → Option Value} {mg mb : Str → Option Value} (dp un : Nat) (gd : Option (List Code)) (cn : Str) (cs : Scope) (a : Addr) (ccd : Value) (cl : List (Str × Addr)) (outer : List Env) (A₀ : Around) (base h₀ : Heap) (L : Addr) (m : Str → Option Value) (s : Shared) (Q E : Value → Shared → Prop)
    (sa : Addr) (items : List Value) (ns : List Int) (news : List (Addr × Obj))
    (B : Below A₀ base outer h₀) (F : Fr h₀ L s.heap m) (X : (Tr.pre.heap_1_39 w.params).In h₀) (N : News h₀ L s.heap news)
    (T : Top Tr.pre.view_1_40 (looseW Tr.pre.view_1_40 [Str.ofString "Sender", Str.ofString "Tcb"]) mean mg mb h₀) (hk : cs.kind = .function)
    (hdp : dp + 3 < recursionLimit) (hL : base.IsList sa items.toArray) (hI : IntsAre items ns) (hlen : ns.length ≤ 63) (hun : un + 1000 < cLine)
    (hret : ∀ (l : Addr) (x y : Int) (tx ty : Tok) (n : Nat) h' tk', AllLt l news → 0 ≤ x → 0 ≤ y → y < 2147483647 → Fr h₀ L h' m → News h₀ L h' ((l, listOf [.int x tx, .int y ty].toArray n) :: news) → Q (.ref l) { s with heap := h', toks := tk' }) :
    wpAny (model Challenge.rw_xw0347_01.row.prog w) (ktrTop dp un gd cn cs L a ccd cl outer) (call (.ref 1059) [.ref sa]) Q E s := by
  revert X; k_fill; intro X
  refine wpAny_call ?_
  k_dflt ktr_enter
  k_steps
  · refine' hret _ _ _ _ _ _ _ _ ?zzp4 ?zzb4 ?zzc4 ?zzd4 ?zzF4 ?zzN4; (case zzN4 => refine' news_drop2 ?zzn4; (case zzn4 => k_asm)); (case zzF4 => k_asm); (case zzp4 => exact And.right (by assumption)); (case zzc4 => exact fmod_lo _ (by decide)); (case zzd4 => exact fmod_hi _ (by decide)); (case zzb4 => exact pool_x (by omega))
  · refine' hret _ _ _ _ _ _ _ _ ?zzp5 ?zzb5 ?zzc5 ?zzd5 ?zzF5 ?zzN5; (case zzN5 => refine' news_drop2 ?zzn5; (case zzn5 => k_asm)); (case zzF5 => k_asm); (case zzp5 => exact And.right (by assumption)); (case zzc5 => exact fmod_lo _ (by decide)); (case zzd5 => exact fmod_hi _ (by decide)); (case zzb5 => exact pool_x (by omega))
end
-- T9
section
theorem rowsT9x1 : True := by
  k_with_none
  k_with "data" => (repeat ((fail_if_success (refine Classical.byContradiction ?_)); rotate_left))
  k_with "callWith ref" => (k_here; k_dflt (refine' callWith_K (by with_reducible assumption) (by k_is) ?_; k_whole))
  k_with "callWith ref" => (k_here; (with_reducible show wpAny _ _ (callWith _ _ _ (backTo _ (starEach [] _)) []) _ _ _); (with_reducible rename Fr _ _ _ _ => kF); k_dflt (refine' callWith_K0 (Frag.In.keeps (by with_reducible assumption) (Fr.keep kF)) (by k_is) ?_; k_whole))
  exact True.intro
set_option maxRecDepth 100000 in
set_option maxHeartbeats 8000000 in
theorem rtt_new {w : World} {mean : ExcName → Option Value} {mg mb : Str → Option Value} (dp un : Nat) (gd : Option (List Code)) (cn : Str) (cs : Scope) (a : Addr) (ccd : Value) (cl : List (Str × Addr)) (outer : List Env) (A₀ : Around) (base h₀ : Heap) (L : Addr) (m : Str → Option Value) (s : Shared) (Q E : Value → Shared → Prop)
    (x y z : Value) (news : List (Addr × Obj))
    (B : Below A₀ base outer h₀) (F : Fr h₀ L s.heap m) (X : (Tr.pre.heap_1_39 w.params).In h₀) (N : News h₀ L s.heap news)
    (T : Top Tr.pre.view_1_40 (looseW Tr.pre.view_1_40 [Str.ofString "Sender", Str.ofString "Tcb"]) mean mg mb h₀) (hk : cs.kind = .function)
    (hdp : dp + 3 < recursionLimit) 
    (hret : ∀ (i d : Addr)  (q0 q1 q2 q3 q4 q5 q6 q7 q8 : Tok) h' tk', (∀ p ∈ news, p.1 < d) → @LT.lt Nat _ d i → Fr h₀ L h' m → News h₀ L h' ((i, instObj 333 d) :: (d, dictOf [⟨PyData.keyHash w.params (Str.ofString "first"), .str (Str.ofString "first") q0, x⟩, ⟨PyData.keyHash w.params (Str.ofString "least"), .str (Str.ofString "least") q1, y⟩, ⟨PyData.keyHash w.params (Str.ofString "most"), .str (Str.ofString "most") q2, z⟩, ⟨PyData.keyHash w.params (Str.ofString "mean8"), .str (Str.ofString "mean8") q3, .int 0 q4⟩, ⟨PyData.keyHash w.params (Str.ofString "spread4"), .str (Str.ofString "spread4") q5, .int 0 q6⟩, ⟨PyData.keyHash w.params (Str.ofString "measured"), .str (Str.ofString "measured") q7, .int 0 q8⟩] 6) :: news) → Q (.ref i) { s with heap := h', toks := tk' }) :
    wpAny (model Challenge.rw_xw0347_01.row.prog w) (ktrTop dp un gd cn cs L a ccd cl outer) (call (.ref 333) [x, y, z]) Q E s := by
  revert X; k_fill; intro X
  k_dflt (refine' call_cls ?k1 ?k2 ?k3 ?k4 ?k5 ?k6 ?_; (case k1 => k_asm); (case k2 => k_asm); (case k3 => k_asm); (case k4 => k_is); (case k5 => k_is); (case k6 => k_is); k_whole; intro x' d' h' F' N' l1 l2; (try k_lt l1); (try k_lt2 l2); (try k_sweep); ktr_enter)
  k_steps
  refine' hret _ _ _ _ _ _ _ _ _ _ _ _ _ ?zz0 ?zz1 ?zzF ?zzN; (case zzN => k_asm); (case zzF => k_asm); (case zz0 => first | with_reducible assumption | exact And.left (by with_reducible assumption) | exact And.left (And.right (by with_reducible assumption))); (case zz1 => first | with_reducible assumption | exact And.left (by with_reducible assumption) | exact And.left (And.right (by with_reducible assumption)))
set_option maxRecDepth 100000 in
set_option maxHeartbeats 8000000 in
theorem rclk_new {w : World} {mean : ExcName → Option Value} {mg mb : Str → Option Value} (dp un : Nat) (gd : Option (List Code)) (cn : Str) (cs : Scope) (a : Addr) (ccd : Value) (cl : List (Str × Addr)) (outer : List Env) (A₀ : Around) (base h₀ : Heap) (L : Addr) (m : Str → Option Value) (s : Shared) (Q E : Value → Shared → Prop)
    (x y : Value) (news : List (Addr × Obj))
    (B : Below A₀ base outer h₀) (F : Fr h₀ L s.heap m) (X : (Tr.pre.heap_1_39 w.params).In h₀) (N : News h₀ L s.heap news)
    (T : Top Tr.pre.view_1_40 (looseW Tr.pre.view_1_40 [Str.ofString "Sender", Str.ofString "Tcb"]) mean mg mb h₀) (hk : cs.kind = .function)
    (hdp : dp + 3 < recursionLimit) 
    (hret : ∀ (i d : Addr)  (q0 q1 q2 q3 q4 q5 q6 : Tok) h' tk', (∀ p ∈ news, p.1 < d) → @LT.lt Nat _ d i → Fr h₀ L h' m → News h₀ L h' ((i, instObj 277 d) :: (d, dictOf [⟨PyData.keyHash w.params (Str.ofString "estimate"), .str (Str.ofString "estimate") q0, x⟩, ⟨PyData.keyHash w.params (Str.ofString "most_tries"), .str (Str.ofString "most_tries") q1, y⟩, ⟨PyData.keyHash w.params (Str.ofString "tries"), .str (Str.ofString "tries") q2, .int 0 q3⟩, ⟨PyData.keyHash w.params (Str.ofString "timed_end"), .str (Str.ofString "timed_end") q4, .none⟩, ⟨PyData.keyHash w.params (Str.ofString "timed_at"), .str (Str.ofString "timed_at") q5, .int 0 q6⟩] 5) :: news) → Q (.ref i) { s with heap := h', toks := tk' }) :
    wpAny (model Challenge.rw_xw0347_01.row.prog w) (ktrTop dp un gd cn cs L a ccd cl outer) (call (.ref 277) [x, y]) Q E s := by
  revert X; k_fill; intro X
  k_dflt (refine' call_cls ?k1 ?k2 ?k3 ?k4 ?k5 ?k6 ?_; (case k1 => k_asm); (case k2 => k_asm); (case k3 => k_asm); (case k4 => k_is); (case k5 => k_is); (case k6 => k_is); k_whole; intro x' d' h' F' N' l1 l2; (try k_lt l1); (try k_lt2 l2); (try k_sweep); ktr_enter)
  k_steps
  refine' hret _ _ _ _ _ _ _ _ _ _ _ ?zz0 ?zz1 ?zzF ?zzN; (case zzN => k_asm); (case zzF => k_asm); (case zz0 => first | with_reducible assumption | exact And.left (by with_reducible assumption) | exact And.left (And.right (by with_reducible assumption))); (case zz1 => first | with_reducible assumption | exact And.left (by with_reducible assumption) | exact And.left (And.right (by with_reducible assumption)))
set_option maxRecDepth 100000 in
set_option maxHeartbeats 8000000 in
theorem peer_new {w : World} {mean : ExcName → Option Value} {mg mb : Str → Option Value} (dp un : Nat) (gd : Option (List Code)) (cn : Str) (cs : Scope) (a : Addr) (ccd : Value) (cl : List (Str × Addr)) (outer : List Env) (A₀ : Around) (base h₀ : Heap) (L : Addr) (m : Str → Option Value) (s : Shared) (Q E : Value → Shared → Prop)
    (x : Value) (news : List (Addr × Obj))
    (B : Below A₀ base outer h₀) (F : Fr h₀ L s.heap m) (X : (Tr.pre.heap_1_39 w.params).In h₀) (N : News h₀ L s.heap news)
    (T : Top Tr.pre.view_1_40 (looseW Tr.pre.view_1_40 [Str.ofString "Sender", Str.ofString "Tcb"]) mean mg mb h₀) (hk : cs.kind = .function)
    (hdp : dp + 3 < recursionLimit) 
    (hret : ∀ (i d : Addr)  (q0 q1 q2 q3 q4 q5 q6 q7 : Tok) h' tk', (∀ p ∈ news, p.1 < d) → @LT.lt Nat _ d i → Fr h₀ L h' m → News h₀ L h' ((i, instObj 475 d) :: (d, dictOf [⟨PyData.keyHash w.params (Str.ofString "ring"), .str (Str.ofString "ring") q0, x⟩, ⟨PyData.keyHash w.params (Str.ofString "size"), .str (Str.ofString "size") q1, .int 0 q2⟩, ⟨PyData.keyHash w.params (Str.ofString "most"), .str (Str.ofString "most") q3, .int 0 q4⟩, ⟨PyData.keyHash w.params (Str.ofString "told_seq"), .str (Str.ofString "told_seq") q5, .none⟩, ⟨PyData.keyHash w.params (Str.ofString "told_ack"), .str (Str.ofString "told_ack") q6, .int 0 q7⟩] 5) :: news) → Q (.ref i) { s with heap := h', toks := tk' }) :
    wpAny (model Challenge.rw_xw0347_01.row.prog w) (ktrTop dp un gd cn cs L a ccd cl outer) (call (.ref 475) [x]) Q E s := by
  revert X; k_fill; intro X
  k_dflt (refine' call_cls ?k1 ?k2 ?k3 ?k4 ?k5 ?k6 ?_; (case k1 => k_asm); (case k2 => k_asm); (case k3 => k_asm); (case k4 => k_is); (case k5 => k_is); (case k6 => k_is); k_whole; intro x' d' h' F' N' l1 l2; (try k_lt l1); (try k_lt2 l2); (try k_sweep); ktr_enter)
  k_steps
  refine' hret _ _ _ _ _ _ _ _ _ _ _ _ ?zz0 ?zz1 ?zzF ?zzN; (case zzN => k_asm); (case zzF => k_asm); (case zz0 => first | with_reducible assumption | exact And.left (by with_reducible assumption) | exact And.left (And.right (by with_reducible assumption))); (case zz1 => first | with_reducible assumption | exact And.left (by with_reducible assumption) | exact And.left (And.right (by with_reducible assumption)))
set_option maxRecDepth 100000 in
set_option maxHeartbeats 8000000 in
theorem queue_new {w : World} {mean : ExcName → Option Value} {mg mb : Str → Option Value} (dp un : Nat) (gd : Option (List Code)) (cn : Str) (cs : Scope) (a : Addr) (ccd : Value) (cl : List (Str × Addr)) (outer : List Env) (A₀ : Around) (base h₀ : Heap) (L : Addr) (m : Str → Option Value) (s : Shared) (Q E : Value → Shared → Prop)
    (r : Int) (tr : Tok) (news : List (Addr × Obj))
    (B : Below A₀ base outer h₀) (F : Fr h₀ L s.heap m) (X : (Tr.pre.heap_1_39 w.params).In h₀) (N : News h₀ L s.heap news)
    (T : Top Tr.pre.view_1_40 (looseW Tr.pre.view_1_40 [Str.ofString "Sender", Str.ofString "Tcb"]) mean mg mb h₀) (hk : cs.kind = .function)
    (hdp : dp + 3 < recursionLimit) (hr : 0 < r)
    (hret : ∀ (i d : Addr)  (q0 q1 q2 : Tok) h' tk', (∀ p ∈ news, p.1 < d) → @LT.lt Nat _ d i → Fr h₀ L h' m → News h₀ L h' ((i, instObj 433 d) :: (d, dictOf [⟨PyData.keyHash w.params (Str.ofString "room"), .str (Str.ofString "room") q0, .int r tr⟩, ⟨PyData.keyHash w.params (Str.ofString "held"), .str (Str.ofString "held") q1, .bytes #[] q2⟩] 2) :: news) → Q (.ref i) { s with heap := h', toks := tk' }) :
    wpAny (model Challenge.rw_xw0347_01.row.prog w) (ktrTop dp un gd cn cs L a ccd cl outer) (call (.ref 433) [.int r tr]) Q E s := by
  revert X; k_fill; intro X
  k_dflt (refine' call_cls ?k1 ?k2 ?k3 ?k4 ?k5 ?k6 ?_; (case k1 => k_asm); (case k2 => k_asm); (case k3 => k_asm); (case k4 => k_is); (case k5 => k_is); (case k6 => k_is); k_whole; intro x' d' h' F' N' l1 l2; (try k_lt l1); (try k_lt2 l2); (try k_sweep); ktr_enter)
  k_steps
  refine' hret _ _ _ _ _ _ _ ?zz0 ?zz1 ?zzF ?zzN; (case zzN => k_asm); (case zzF => k_asm); (case zz0 => first | with_reducible assumption | exact And.left (by with_reducible assumption) | exact And.left (And.right (by with_reducible assumption))); (case zz1 => first | with_reducible assumption | exact And.left (by with_reducible assumption) | exact And.left (And.right (by with_reducible assumption)))
set_option maxRecDepth 100000 in
set_option maxHeartbeats 8000000 in
theorem cong_new {w : World} {mean : ExcName → Option Value} {mg mb : Str → Option Value} (dp un : Nat) (gd : Option (List Code)) (cn : Str) (cs : Scope) (a : Addr) (ccd : Value) (cl : List (Str × Addr)) (outer : List Env) (A₀ : Around) (base h₀ : Heap) (L : Addr) (m : Str → Option Value) (s : Shared) (Q E : Value → Shared → Prop)
    (x y z : Value) (news : List (Addr × Obj))
    (B : Below A₀ base outer h₀) (F : Fr h₀ L s.heap m) (X : (Tr.pre.heap_1_39 w.params).In h₀) (N : News h₀ L s.heap news)
    (T : Top Tr.pre.view_1_40 (looseW Tr.pre.view_1_40 [Str.ofString "Sender", Str.ofString "Tcb"]) mean mg mb h₀) (hk : cs.kind = .function)
    (hdp : dp + 3 < recursionLimit) 
    (hret : ∀ (i d : Addr)  (q0 q1 q2 q3 q4 q5 q6 q7 q8 q9 : Tok) h' tk', (∀ p ∈ news, p.1 < d) → @LT.lt Nat _ d i → Fr h₀ L h' m → News h₀ L h' ((i, instObj 165 d) :: (d, dictOf [⟨PyData.keyHash w.params (Str.ofString "mss"), .str (Str.ofString "mss") q0, x⟩, ⟨PyData.keyHash w.params (Str.ofString "most"), .str (Str.ofString "most") q1, z⟩, ⟨PyData.keyHash w.params (Str.ofString "size"), .str (Str.ofString "size") q2, y⟩, ⟨PyData.keyHash w.params (Str.ofString "threshold"), .str (Str.ofString "threshold") q3, z⟩, ⟨PyData.keyHash w.params (Str.ofString "gathered"), .str (Str.ofString "gathered") q4, .int 0 q5⟩, ⟨PyData.keyHash w.params (Str.ofString "duplicates"), .str (Str.ofString "duplicates") q6, .int 0 q7⟩, ⟨PyData.keyHash w.params (Str.ofString "is_recovering"), .str (Str.ofString "is_recovering") q8, .bool false⟩, ⟨PyData.keyHash w.params (Str.ofString "is_cautious"), .str (Str.ofString "is_cautious") q9, .bool false⟩] 8) :: news) → Q (.ref i) { s with heap := h', toks := tk' }) :
    wpAny (model Challenge.rw_xw0347_01.row.prog w) (ktrTop dp un gd cn cs L a ccd cl outer) (call (.ref 165) [x, y, z]) Q E s := by
  revert X; k_fill; intro X
  k_dflt (refine' call_cls ?k1 ?k2 ?k3 ?k4 ?k5 ?k6 ?_; (case k1 => k_asm); (case k2 => k_asm); (case k3 => k_asm); (case k4 => k_is); (case k5 => k_is); (case k6 => k_is); k_whole; intro x' d' h' F' N' l1 l2; (try k_lt l1); (try k_lt2 l2); (try k_sweep); ktr_enter)
  k_steps
  refine' hret _ _ _ _ _ _ _ _ _ _ _ _ _ _ ?zz0 ?zz1 ?zzF ?zzN; (case zzN => k_asm); (case zzF => k_asm); (case zz0 => first | with_reducible assumption | exact And.left (by with_reducible assumption) | exact And.left (And.right (by with_reducible assumption))); (case zz1 => first | with_reducible assumption | exact And.left (by with_reducible assumption) | exact And.left (And.right (by with_reducible assumption)))
set_option maxRecDepth 100000 in
set_option maxHeartbeats 8000000 in
theorem ack_new {w : World} {mean : ExcName → Option Value} {mg mb : Str → Option Value} (dp un : Nat) (gd : Option (List Code)) (cn : Str) (cs : Scope) (a : Addr) (ccd : Value) (cl : List (Str × Addr)) (outer : List Env) (A₀ : Around) (base h₀ : Heap) (L : Addr) (m : Str → Option Value) (s : Shared) (Q E : Value → Shared → Prop)
    (x : Value) (news : List (Addr × Obj))
    (B : Below A₀ base outer h₀) (F : Fr h₀ L s.heap m) (X : (Tr.pre.heap_1_39 w.params).In h₀) (N : News h₀ L s.heap news)
    (T : Top Tr.pre.view_1_40 (looseW Tr.pre.view_1_40 [Str.ofString "Sender", Str.ofString "Tcb"]) mean mg mb h₀) (hk : cs.kind = .function)
    (hdp : dp + 3 < recursionLimit) 
    (hret : ∀ (i d : Addr)  (q0 q1 q2 q3 q4 : Tok) h' tk', (∀ p ∈ news, p.1 < d) → @LT.lt Nat _ d i → Fr h₀ L h' m → News h₀ L h' ((i, instObj 74 d) :: (d, dictOf [⟨PyData.keyHash w.params (Str.ofString "delay"), .str (Str.ofString "delay") q0, x⟩, ⟨PyData.keyHash w.params (Str.ofString "waiting"), .str (Str.ofString "waiting") q1, .int 0 q2⟩, ⟨PyData.keyHash w.params (Str.ofString "due"), .str (Str.ofString "due") q3, .none⟩, ⟨PyData.keyHash w.params (Str.ofString "has_gap"), .str (Str.ofString "has_gap") q4, .bool false⟩] 4) :: news) → Q (.ref i) { s with heap := h', toks := tk' }) :
    wpAny (model Challenge.rw_xw0347_01.row.prog w) (ktrTop dp un gd cn cs L a ccd cl outer) (call (.ref 74) [x]) Q E s := by
  revert X; k_fill; intro X
  k_dflt (refine' call_cls ?k1 ?k2 ?k3 ?k4 ?k5 ?k6 ?_; (case k1 => k_asm); (case k2 => k_asm); (case k3 => k_asm); (case k4 => k_is); (case k5 => k_is); (case k6 => k_is); k_whole; intro x' d' h' F' N' l1 l2; (try k_lt l1); (try k_lt2 l2); (try k_sweep); ktr_enter)
  k_steps
  refine' hret _ _ _ _ _ _ _ _ _ ?zz0 ?zz1 ?zzF ?zzN; (case zzN => k_asm); (case zzF => k_asm); (case zz0 => first | with_reducible assumption | exact And.left (by with_reducible assumption) | exact And.left (And.right (by with_reducible assumption))); (case zz1 => first | with_reducible assumption | exact And.left (by with_reducible assumption) | exact And.left (And.right (by with_reducible assumption)))
set_option maxRecDepth 100000 in
set_option maxHeartbeats 8000000 in
theorem lim_new {w : World} {mean : ExcName → Option Value} {mg mb : Str → Option Value} (dp un : Nat) (gd : Option (List Code)) (cn : Str) (cs : Scope) (a : Addr) (ccd : Value) (cl : List (Str × Addr)) (outer : List Env) (A₀ : Around) (base h₀ : Heap) (L : Addr) (m : Str → Option Value) (s : Shared) (Q E : Value → Shared → Prop)
    (v0 v1 v2 v3 v4 v5 v6 v7 v8 v9 : Value) (news : List (Addr × Obj))
    (B : Below A₀ base outer h₀) (F : Fr h₀ L s.heap m) (X : (Tr.pre.heap_1_39 w.params).In h₀) (N : News h₀ L s.heap news)
    (T : Top Tr.pre.view_1_40 (looseW Tr.pre.view_1_40 [Str.ofString "Sender", Str.ofString "Tcb"]) mean mg mb h₀) (hk : cs.kind = .function)
    (hdp : dp + 3 < recursionLimit) 
    (hret : ∀ (i d : Addr)  (q0 q1 q2 q3 q4 q5 q6 q7 q8 q9 : Tok) h' tk', (∀ p ∈ news, p.1 < d) → @LT.lt Nat _ d i → Fr h₀ L h' m → News h₀ L h' ((i, instObj 761 d) :: (d, dictOf [⟨PyData.keyHash w.params (Str.ofString "ring"), .str (Str.ofString "ring") q0, v0⟩, ⟨PyData.keyHash w.params (Str.ofString "mss"), .str (Str.ofString "mss") q1, v1⟩, ⟨PyData.keyHash w.params (Str.ofString "send_room"), .str (Str.ofString "send_room") q2, v2⟩, ⟨PyData.keyHash w.params (Str.ofString "receive_room"), .str (Str.ofString "receive_room") q3, v3⟩, ⟨PyData.keyHash w.params (Str.ofString "first_timeout"), .str (Str.ofString "first_timeout") q4, v4⟩, ⟨PyData.keyHash w.params (Str.ofString "least_timeout"), .str (Str.ofString "least_timeout") q5, v5⟩, ⟨PyData.keyHash w.params (Str.ofString "most_timeout"), .str (Str.ofString "most_timeout") q6, v6⟩, ⟨PyData.keyHash w.params (Str.ofString "most_tries"), .str (Str.ofString "most_tries") q7, v7⟩, ⟨PyData.keyHash w.params (Str.ofString "ack_delay"), .str (Str.ofString "ack_delay") q8, v8⟩, ⟨PyData.keyHash w.params (Str.ofString "time_wait"), .str (Str.ofString "time_wait") q9, v9⟩] 10) :: news) → Q (.ref i) { s with heap := h', toks := tk' }) :
    wpAny (model Challenge.rw_xw0347_01.row.prog w) (ktrTop dp un gd cn cs L a ccd cl outer) (call (.ref 761) [v0, v1, v2, v3, v4, v5, v6, v7, v8, v9]) Q E s := by
  revert X; k_fill; intro X
  k_dflt (refine' call_cls ?k1 ?k2 ?k3 ?k4 ?k5 ?k6 ?_; (case k1 => k_asm); (case k2 => k_asm); (case k3 => k_asm); (case k4 => k_is); (case k5 => k_is); (case k6 => k_is); k_whole; intro x' d' h' F' N' l1 l2; (try k_lt l1); (try k_lt2 l2); (try k_sweep); ktr_enter)
  k_steps
  refine' hret _ _ _ _ _ _ _ _ _ _ _ _ _ _ ?zz0 ?zz1 ?zzF ?zzN; (case zzN => k_asm); (case zzF => k_asm); (case zz0 => first | with_reducible assumption | exact And.left (by with_reducible assumption) | exact And.left (And.right (by with_reducible assumption))); (case zz1 => first | with_reducible assumption | exact And.left (by with_reducible assumption) | exact And.left (And.right (by with_reducible assumption)))
end
-- T10
section
theorem mem_lt9 {p : Addr × Obj} {l : List (Addr × Obj)} (h : p ∈ l) : List.Mem p l := h
local macro_rules | `(tactic| k_mem) => `(tactic| (refine mem_lt9 ?_; with_reducible assumption))
theorem rowsT10x1 : True := by
  k_with_none
  k_with "data" => (repeat ((fail_if_success (refine Classical.byContradiction ?_)); rotate_left))
  k_with "callWith ref" => (k_here; k_dflt (refine' callWith_K (by with_reducible assumption) (by k_is) ?_; k_whole))
  k_with "callWith ref" => (k_here; (with_reducible show wpAny _ _ (callWith _ _ _ (backTo _ (starEach [] _)) []) _ _ _); (with_reducible rename Fr _ _ _ _ => kF); k_dflt (refine' callWith_K0 (Frag.In.keeps (by with_reducible assumption) (Fr.keep kF)) (by k_is) ?_; k_whole))
  k_with "call ref" => (k_here; (with_reducible show wpAny _ _ (call (Value.ref 475) _) _ _ _); k_dflt ((refine' peer_new _ _ _ _ _ _ _ _ _ _ _ _ _ _ _ _ _ _ _ (by k_asm) (by k_asm) (by k_asm) (by k_asm) (by k_asm) (by first | exact rfl | assumption) (by ktr_room)  ?_; (intro i9 d9 q0 q1 q2 q3 q4 q5 q6 q7 h9 tk9 l1 l2 F9 N9); (try k_lt l1); (try k_lt2 l2); (try k_sweep))))
  k_with "call ref" => (k_here; (with_reducible show wpAny _ _ (call (Value.ref 433) _) _ _ _); k_dflt ((refine' queue_new _ _ _ _ _ _ _ _ _ _ _ _ _ _ _ _ _ _ _ _ (by k_asm) (by k_asm) (by k_asm) (by k_asm) (by k_asm) (by first | exact rfl | assumption) (by ktr_room) (by first | assumption | decide) ?_; (intro i9 d9 q0 q1 q2 h9 tk9 l1 l2 F9 N9); (try k_lt l1); (try k_lt2 l2); (try k_sweep))))
  k_with "call ref" => (k_here; (with_reducible show wpAny _ _ (call (Value.ref 333) _) _ _ _); k_dflt ((refine' rtt_new _ _ _ _ _ _ _ _ _ _ _ _ _ _ _ _ _ _ _ _ _ (by k_asm) (by k_asm) (by k_asm) (by k_asm) (by k_asm) (by first | exact rfl | assumption) (by ktr_room)  ?_; (intro i9 d9 q0 q1 q2 q3 q4 q5 q6 q7 q8 h9 tk9 l1 l2 F9 N9); (try k_lt l1); (try k_lt2 l2); (try k_sweep))))
  k_with "call ref" => (k_here; (with_reducible show wpAny _ _ (call (Value.ref 277) _) _ _ _); k_dflt ((refine' rclk_new _ _ _ _ _ _ _ _ _ _ _ _ _ _ _ _ _ _ _ _ (by k_asm) (by k_asm) (by k_asm) (by k_asm) (by k_asm) (by first | exact rfl | assumption) (by ktr_room)  ?_; (intro i9 d9 q0 q1 q2 q3 q4 q5 q6 h9 tk9 l1 l2 F9 N9); (try k_lt l1); (try k_lt2 l2); (try k_sweep))))
  exact True.intro
set_option maxRecDepth 100000 in
set_option maxHeartbeats 8000000 in
theorem sender_new {w : World} {mean : ExcName → Option Value} {mg mb : Str → Option Value} (dp un : Nat) (gd : Option (List Code)) (cn : Str) (cs : Scope) (a : Addr) (ccd : Value) (cl : List (Str × Addr)) (outer : List Env) (A₀ : Around) (base h₀ : Heap) (L : Addr) (m : Str → Option Value) (s : Shared) (Q E : Value → Shared → Prop)
    (ti tr tq tm : Tok) (news : List (Addr × Obj))
    (B : Below A₀ base outer h₀) (F : Fr h₀ L s.heap m) (X : (Tr.pre.heap_1_39 w.params).In h₀) (N : News h₀ L s.heap news)
    (T : Top Tr.pre.view_1_40 (looseW Tr.pre.view_1_40 [Str.ofString "Sender", Str.ofString "Tcb"]) mean mg mb h₀) (hk : cs.kind = .function)
    (hdp : dp + 6 < recursionLimit) 
    (hret : ∀ (i d : Addr) (pe pd qu qd : Addr) (p0 p1 p2 p3 p4 p5 p6 p7 w0 w1 w2 : Tok) (q0 q1 q2 q3 q4 q5 q6 q7 q8 q9 q10 : Tok) h' tk', (∀ p ∈ news, p.1 < d) → @LT.lt Nat _ d i → @LT.lt Nat _ i pd → @LT.lt Nat _ pd pe → @LT.lt Nat _ pe qd → @LT.lt Nat _ qd qu → Fr h₀ L h' m → News h₀ L h' ((qu, instObj 433 qd) :: (qd, dictOf [⟨PyData.keyHash w.params (Str.ofString "room"), .str (Str.ofString "room") w0, .int 40 tm⟩, ⟨PyData.keyHash w.params (Str.ofString "held"), .str (Str.ofString "held") w1, .bytes #[] w2⟩] 2) :: (pe, instObj 475 pd) :: (pd, dictOf [⟨PyData.keyHash w.params (Str.ofString "ring"), .str (Str.ofString "ring") p0, .int 256 tr⟩, ⟨PyData.keyHash w.params (Str.ofString "size"), .str (Str.ofString "size") p1, .int 0 p2⟩, ⟨PyData.keyHash w.params (Str.ofString "most"), .str (Str.ofString "most") p3, .int 0 p4⟩, ⟨PyData.keyHash w.params (Str.ofString "told_seq"), .str (Str.ofString "told_seq") p5, .none⟩, ⟨PyData.keyHash w.params (Str.ofString "told_ack"), .str (Str.ofString "told_ack") p6, .int 0 p7⟩] 5) :: (i, instObj 666 d) :: (d, dictOf [⟨PyData.keyHash w.params (Str.ofString "iss"), .str (Str.ofString "iss") q0, .int 253 ti⟩, ⟨PyData.keyHash w.params (Str.ofString "ring"), .str (Str.ofString "ring") q1, .int 256 tr⟩, ⟨PyData.keyHash w.params (Str.ofString "mss"), .str (Str.ofString "mss") q2, .int 4 tq⟩, ⟨PyData.keyHash w.params (Str.ofString "una"), .str (Str.ofString "una") q3, .int 253 ti⟩, ⟨PyData.keyHash w.params (Str.ofString "next"), .str (Str.ofString "next") q4, .int 253 ti⟩, ⟨PyData.keyHash w.params (Str.ofString "greatest"), .str (Str.ofString "greatest") q5, .int 253 ti⟩, ⟨PyData.keyHash w.params (Str.ofString "peer"), .str (Str.ofString "peer") q6, .ref pe⟩, ⟨PyData.keyHash w.params (Str.ofString "queue"), .str (Str.ofString "queue") q7, .ref qu⟩, ⟨PyData.keyHash w.params (Str.ofString "syn_pending"), .str (Str.ofString "syn_pending") q8, .bool true⟩, ⟨PyData.keyHash w.params (Str.ofString "fin_asked"), .str (Str.ofString "fin_asked") q9, .bool false⟩, ⟨PyData.keyHash w.params (Str.ofString "fin_sent"), .str (Str.ofString "fin_sent") q10, .bool false⟩] 11) :: news) → Q (.ref i) { s with heap := h', toks := tk' }) :
    wpAny (model Challenge.rw_xw0347_01.row.prog w) (ktrTop dp un gd cn cs L a ccd cl outer) (call (.ref 666) [.int 253 ti, .int 256 tr, .int 4 tq, .int 40 tm]) Q E s := by
  revert X; k_fill; intro X
  k_dflt (refine' call_cls ?k1 ?k2 ?k3 ?k4 ?k5 ?k6 ?_; (case k1 => k_asm); (case k2 => k_asm); (case k3 => k_asm); (case k4 => k_is); (case k5 => k_is); (case k6 => k_is); k_whole; intro x' d' h' F' N' l1 l2; (try k_lt l1); (try k_lt2 l2); (try k_sweep); ktr_enter)
  k_steps
  refine' hret _ _ _ _ _ _ _ _ _ _ _ _ _ _ _ _ _ _ _ _ _ _ _ _ _ _ _ _ _ _ ?zz0 ?zz1 ?zz2 ?zz3 ?zz4 ?zz5 ?zzF ?zzN; (case zzN => k_asm); (case zzF => k_asm); (case zz0 => first | with_reducible assumption | exact And.left (by with_reducible assumption) | exact And.left (And.right (by with_reducible assumption))); (case zz1 => first | with_reducible assumption | exact And.left (by with_reducible assumption) | exact And.left (And.right (by with_reducible assumption))); (case zz2 => first | with_reducible assumption | exact And.left (by with_reducible assumption) | exact And.left (And.right (by with_reducible assumption))); (case zz3 => first | with_reducible assumption | exact And.left (by with_reducible assumption) | exact And.left (And.right (by with_reducible assumption))); (case zz4 => first | with_reducible assumption | exact And.left (by with_reducible assumption) | exact And.left (And.right (by with_reducible assumption))); (case zz5 => first | with_reducible assumption | exact And.left (by with_reducible assumption) | exact And.left (And.right (by with_reducible assumption)))
set_option maxRecDepth 100000 in
set_option maxHeartbeats 8000000 in
theorem clock_new {w : World} {mean : ExcName → Option Value} {mg mb : Str → Option Value} (dp un : Nat) (gd : Option (List Code)) (cn : Str) (cs : Scope) (a : Addr) (ccd : Value) (cl : List (Str × Addr)) (outer : List Env) (A₀ : Around) (base h₀ : Heap) (L : Addr) (m : Str → Option Value) (s : Shared) (Q E : Value → Shared → Prop)
    (li ld : Addr) (t0 u0 t1 u1 t2 u2 t3 u3 t4 u4 t5 u5 t6 u6 t7 u7 t8 u8 t9 u9 : Tok) (news : List (Addr × Obj))
    (B : Below A₀ base outer h₀) (F : Fr h₀ L s.heap m) (X : (Tr.pre.heap_1_39 w.params).In h₀) (N : News h₀ L s.heap news)
    (T : Top Tr.pre.view_1_40 (looseW Tr.pre.view_1_40 [Str.ofString "Sender", Str.ofString "Tcb"]) mean mg mb h₀) (hk : cs.kind = .function)
    (hdp : dp + 5 < recursionLimit) (m0 : (li, instObj 761 ld) ∈ news) (m1 : (ld, dictOf [⟨PyData.keyHash w.params (Str.ofString "ring"), .str (Str.ofString "ring") t0, .int 256 u0⟩, ⟨PyData.keyHash w.params (Str.ofString "mss"), .str (Str.ofString "mss") t1, .int 4 u1⟩, ⟨PyData.keyHash w.params (Str.ofString "send_room"), .str (Str.ofString "send_room") t2, .int 40 u2⟩, ⟨PyData.keyHash w.params (Str.ofString "receive_room"), .str (Str.ofString "receive_room") t3, .int 16 u3⟩, ⟨PyData.keyHash w.params (Str.ofString "first_timeout"), .str (Str.ofString "first_timeout") t4, .int 10 u4⟩, ⟨PyData.keyHash w.params (Str.ofString "least_timeout"), .str (Str.ofString "least_timeout") t5, .int 5 u5⟩, ⟨PyData.keyHash w.params (Str.ofString "most_timeout"), .str (Str.ofString "most_timeout") t6, .int 60 u6⟩, ⟨PyData.keyHash w.params (Str.ofString "most_tries"), .str (Str.ofString "most_tries") t7, .int 3 u7⟩, ⟨PyData.keyHash w.params (Str.ofString "ack_delay"), .str (Str.ofString "ack_delay") t8, .int 2 u8⟩, ⟨PyData.keyHash w.params (Str.ofString "time_wait"), .str (Str.ofString "time_wait") t9, .int 7 u9⟩] 10) ∈ news)
    (hret : ∀ (clk cd est ed : Addr) (e0 e1 e2 e3 e4 e5 e6 e7 e8 c0 c1 c2 c3 c4 c5 c6 : Tok) h' tk', (∀ p ∈ news, p.1 < ed) → @LT.lt Nat _ ed est → @LT.lt Nat _ est cd → @LT.lt Nat _ cd clk → Fr h₀ L h' m → News h₀ L h' ((clk, instObj 277 cd) :: (cd, dictOf [⟨PyData.keyHash w.params (Str.ofString "estimate"), .str (Str.ofString "estimate") c0, .ref est⟩, ⟨PyData.keyHash w.params (Str.ofString "most_tries"), .str (Str.ofString "most_tries") c1, .int 3 u7⟩, ⟨PyData.keyHash w.params (Str.ofString "tries"), .str (Str.ofString "tries") c2, .int 0 c3⟩, ⟨PyData.keyHash w.params (Str.ofString "timed_end"), .str (Str.ofString "timed_end") c4, .none⟩, ⟨PyData.keyHash w.params (Str.ofString "timed_at"), .str (Str.ofString "timed_at") c5, .int 0 c6⟩] 5) :: (est, instObj 333 ed) :: (ed, dictOf [⟨PyData.keyHash w.params (Str.ofString "first"), .str (Str.ofString "first") e0, .int 10 u4⟩, ⟨PyData.keyHash w.params (Str.ofString "least"), .str (Str.ofString "least") e1, .int 5 u5⟩, ⟨PyData.keyHash w.params (Str.ofString "most"), .str (Str.ofString "most") e2, .int 60 u6⟩, ⟨PyData.keyHash w.params (Str.ofString "mean8"), .str (Str.ofString "mean8") e3, .int 0 e4⟩, ⟨PyData.keyHash w.params (Str.ofString "spread4"), .str (Str.ofString "spread4") e5, .int 0 e6⟩, ⟨PyData.keyHash w.params (Str.ofString "measured"), .str (Str.ofString "measured") e7, .int 0 e8⟩] 6) :: news) → Q (.ref clk) { s with heap := h', toks := tk' }) :
    wpAny (model Challenge.rw_xw0347_01.row.prog w) (ktrTop dp un gd cn cs L a ccd cl outer) (call (.ref 772) [.ref li]) Q E s := by
  revert X; k_fill; intro X
  refine wpAny_call ?_
  k_dflt ktr_enter
  k_steps
  refine' hret _ _ _ _ _ _ _ _ _ _ _ _ _ _ _ _ _ _ _ _ _ _ ?zz0 ?zz1 ?zz2 ?zz3 ?zzF ?zzN; (case zzN => k_asm); (case zzF => k_asm); (case zz0 => assumption); (case zz1 => assumption); (case zz2 => first | assumption | exact And.left (by with_reducible assumption)); (case zz3 => assumption)
end
-- T11
section
theorem rowsT11x1 : True := by
  k_with_none
  k_with "data" => (repeat ((fail_if_success (refine Classical.byContradiction ?_)); rotate_left))
  k_with "callWith ref" => (k_here; k_dflt (refine' callWith_K (by with_reducible assumption) (by k_is) ?_; k_whole))
  k_with "callWith ref" => (k_here; (with_reducible show wpAny _ _ (callWith _ _ _ (backTo _ (starEach [] _)) []) _ _ _); (with_reducible rename Fr _ _ _ _ => kF); k_dflt (refine' callWith_K0 (Frag.In.keeps (by with_reducible assumption) (Fr.keep kF)) (by k_is) ?_; k_whole))
  exact True.intro
open PyProof.Rows.LCg in
section
variable {prog : Program} {w : World} {A : Around} {E : Value → Shared → Prop} {s : Shared} {h₀ : Heap} {L : Addr} {m : Str → Option Value} {env : Env}
def LJ (n : Nat) (ys : List Value) (new news0 : List (Addr × Obj)) : Prop :=
  ys.length = n ∧ (∀ j, j < n → ∃ a, ys[j]? = some (.ref a) ∧ (a, listOf [].toArray 0) ∈ new) ∧ ∀ p ∈ new, ∀ q ∈ news0, @LT.lt Nat _ q.1 p.1
open PyProof.Rows.LCg in
theorem comp_lists {x : Str} {scope : Scope} {cl : List (Str × Addr)} {P : Nat → Value → Prop} {Fin : List Value → List (Addr × Obj) → Prop} {pos : Pos} {news0 : List (Addr × Obj)} (k : Nat) : ∀ (i : Nat) (ys : List Value) (new : List (Addr × Obj)), LJ i ys new news0 → (∀ ys new, LJ (i + k) ys new news0 → Fin ys (new ++ news0)) →
    CompRest prog w A h₀ L m env (.List [] pos) x scope cl s (fun _ => True) P Fin k i ys (new ++ news0) := by
  induction k with
  | zero => intro i ys new J hf; exact hf ys new J
  | succ k ih =>
    intro i ys new J hf v I oI C oC D m₂ h tk E' _ _ _ F N off ne
    refine List_ (spliced_nil ?_)
    refine newList_K F N (fun l h' F' N' l1 => ?_) (Nat.zero_le _)
    refine CompEnd.intro F' N' (((l, listOf [].toArray 0) :: new) ++ news0) ?_ ?_ trivial ?_
    · intro p hp
      rcases List.mem_cons.mp hp with rfl | hp
      · exact .tail _ (.head _)
      · rcases List.mem_cons.mp hp with rfl | hp
        · exact .tail _ (.tail _ (.head _))
        · rcases List.mem_cons.mp hp with rfl | hp
          · exact .tail _ (.tail _ (.tail _ (.head _)))
          · rcases List.mem_cons.mp hp with rfl | hp
            · exact .head _
            · exact .tail _ (.tail _ (.tail _ (.tail _ hp)))
    · exact ⟨⟨fun e => Nat.lt_irrefl _ (e ▸ l1 _ (.head _)), fun e => Nat.lt_irrefl _ (e ▸ l1 _ (.tail _ (.head _))), fun e => Nat.lt_irrefl _ (e ▸ l1 _ (.tail _ (.tail _ (.head _))))⟩, off⟩
    · refine ih (i + 1) (ys ++ [.ref l]) ((l, listOf [].toArray 0) :: new) ⟨by rw [List.length_append, J.1]; rfl, fun j hj => ?_, fun p hp q hq => ?_⟩ (fun ys new J' => hf ys new (by rwa [Nat.add_right_comm, Nat.add_assoc] at J'))
      · rcases Nat.lt_succ_iff_lt_or_eq.mp hj with hj | rfl
        · obtain ⟨a, e, hm⟩ := J.2.1 j hj
          exact ⟨a, by rw [List.getElem?_append_left (by rw [J.1]; exact hj)]; exact e, .tail _ hm⟩
        · exact ⟨l, by rw [List.getElem?_append_right (by rw [J.1]; exact Nat.le_refl _), J.1, Nat.sub_self]; rfl, .head _⟩
      · rcases List.mem_cons.mp hp with rfl | hp
        · exact l1 q (.tail _ (.tail _ (.tail _ (List.mem_append_right _ hq))))
        · exact J.2.2 p hp q hq
theorem comp_lists0 {x : Str} {scope : Scope} {cl : List (Str × Addr)} {P : Nat → Value → Prop} {Fin : List Value → List (Addr × Obj) → Prop} {pos : Pos} {news0 : List (Addr × Obj)} {k : Nat} (hf : ∀ ys new, LJ k ys new news0 → Fin ys (new ++ news0)) :
    LCg.CompRest prog w A h₀ L m env (.List [] pos) x scope cl s (fun _ => True) P Fin k 0 [] news0 :=
  comp_lists k 0 [] [] ⟨rfl, fun _ h => absurd h (Nat.not_lt_zero _), fun _ h => nomatch h⟩ (fun ys new J => hf ys new (by rwa [Nat.zero_add] at J))
structure SlJ (D : Addr) (ys : List Value) (nw prv news : List (Addr × Obj)) (whl wd : Addr) : Prop where
  eq : prv = nw ++ news
  me : (D, listOf ys.toArray ys.length) ∈ nw
  sl : ∀ j, j < 16 → ∃ a, ys[j]? = some (.ref a) ∧ (a, listOf [].toArray 0) ∈ nw ∧ @Ne Nat a D
  off : OwnOff prv [whl, wd]
  new : ∀ q ∈ nw, ∀ p ∈ news, p.1 ≠ q.1
theorem off1_mem {D : Addr} {l : List (Addr × Obj)} (h : LCg.Off1 D l) : ∀ p ∈ l, p.1 ≠ D := by
  induction l with
  | nil => intro p hp; cases hp
  | cons q r ih =>
    intro p hp
    rcases List.mem_cons.mp hp with rfl | hp
    · exact h.1
    · exact ih h.2 p hp
theorem finE_fold {Q : Value → Shared → Prop} {ys : List Value} {new news : List (Addr × Obj)} {a1 a2 : Addr} {b1 b2 : Obj} (J : LJ 16 ys new ((a1, b1) :: (a2, b2) :: news)) (hn : ∀ p ∈ news, p.1 < a2) (h12 : a2 < a1)
    (h : ∀ D h tk nw prv, Fr h₀ L h m → News h₀ L h ((a1, b1) :: (a2, b2) :: prv) → SlJ D ys nw prv news a1 a2 → OwnOff prv [a1, a2] → Q (.ref D) { s with heap := h, toks := tk }) :
    LCg.FinE h₀ L m s Q ys (new ++ (a1, b1) :: (a2, b2) :: news) := by
  intro D h' tk F N o1
  have ho := off1_mem o1
  have hoff : OwnOff ((D, listOf ys.toArray ys.length) :: (new ++ news)) [a1, a2] := by
    intro p hp b hb
    have hb' : b = a1 ∨ b = a2 := by simpa using hb
    rcases List.mem_cons.mp hp with rfl | hp
    · rcases hb' with rfl | rfl
      · exact (ho _ (List.mem_append_right _ (.head _))).symm
      · exact (ho _ (List.mem_append_right _ (.tail _ (.head _)))).symm
    · rcases List.mem_append.mp hp with hp | hp
      · rcases hb' with rfl | rfl
        · exact Nat.ne_of_gt (J.2.2 p hp _ (.head _))
        · exact Nat.ne_of_gt (J.2.2 p hp _ (.tail _ (.head _)))
      · have := hn p hp
        rcases hb' with rfl | rfl
        · exact Nat.ne_of_lt (Nat.lt_trans this h12)
        · exact Nat.ne_of_lt this
  refine h D h' tk ((D, listOf ys.toArray ys.length) :: new) ((D, listOf ys.toArray ys.length) :: (new ++ news)) F (fun p hp => ?_) ⟨rfl, .head _, fun j hj => ?_, hoff, fun q hq => ?_⟩ hoff
  · rcases List.mem_cons.mp hp with rfl | hp
    · exact N _ (.tail _ (List.mem_append_right _ (.head _)))
    · rcases List.mem_cons.mp hp with rfl | hp
      · exact N _ (.tail _ (List.mem_append_right _ (.tail _ (.head _))))
      · rcases List.mem_cons.mp hp with rfl | hp
        · exact N _ (.head _)
        · rcases List.mem_append.mp hp with hp | hp
          · exact N _ (.tail _ (List.mem_append_left _ hp))
          · exact N _ (.tail _ (List.mem_append_right _ (.tail _ (.tail _ hp))))
  · obtain ⟨a, e, hm⟩ := J.2.1 j hj
    exact ⟨a, e, .tail _ hm, ho _ (List.mem_append_left _ hm)⟩
  · rcases List.mem_cons.mp hq with rfl | hq
    · exact fun p hp => ho p (List.mem_append_right _ (.tail _ (.tail _ hp)))
    · exact fun p hp => Nat.ne_of_lt (J.2.2 q hq p (.tail _ (.tail _ hp)))
theorem lt_mem {d : Addr} {l : List (Addr × Obj)} (h : AllLt d l) : ∀ p ∈ l, @LT.lt Nat _ p.1 d := by
  induction l with
  | nil => intro p hp; cases hp
  | cons q r ih =>
    intro p hp
    rcases List.mem_cons.mp hp with rfl | hp
    · exact h.1
    · exact ih h.2 p hp
theorem wheel_end {w : World} {R : Prop} {D whl wd lt en : Addr} {ys : List Value} {nw prv news : List (Addr × Obj)} {oe : Obj} {h : Heap} {k0 k1 k2 k3 k4 k5 k6 tg : Tok} (SJ : SlJ D ys nw prv news whl wd) (l1 : ∀ p ∈ news, p.1 < wd) (l2 : @LT.lt Nat _ wd whl)
    (h1 : @LT.lt Nat _ whl lt ∧ @LT.lt Nat _ wd lt ∧ AllLt lt prv) (h2 : @LT.lt Nat _ lt en ∧ @LT.lt Nat _ whl en ∧ @LT.lt Nat _ wd en ∧ AllLt en prv) (lo : (en == sysModules) = false) (hi : oe.IsDictOf (intKind Challenge.rw_xw0347_01.row.prog w) [])
    (N : News h₀ L h ((en, oe) :: (lt, listOf [].toArray 0) :: (whl, instObj 740 wd) :: (wd, dictOf [⟨PyData.keyHash w.params (Str.ofString "size"), .str (Str.ofString "size") k0, .int 16 k1⟩, ⟨PyData.keyHash w.params (Str.ofString "slots"), .str (Str.ofString "slots") k2, .ref D⟩, ⟨PyData.keyHash w.params (Str.ofString "late"), .str (Str.ofString "late") k3, .ref lt⟩, ⟨PyData.keyHash w.params (Str.ofString "entries"), .str (Str.ofString "entries") k4, .ref en⟩, ⟨PyData.keyHash w.params (Str.ofString "reached"), .str (Str.ofString "reached") k5, .none⟩, ⟨PyData.keyHash w.params (Str.ofString "given"), .str (Str.ofString "given") k6, .int 0 tg⟩] 6) :: prv))
    (r : ∀ k new, (whl, instObj 740 wd) ∈ new → (wd, oW w.params k D lt en 0 tg) ∈ new → WSt whl wd D lt en → WI w whl wd D lt en (fun _ => none) 0 [] new → (∀ q ∈ new, ∀ p ∈ news, p.1 ≠ q.1) → News h₀ L h (new ++ news) → R) : R := by
  have e := SJ.eq
  subst e
  have mD : (D, listOf ys.toArray ys.length) ∈ nw ++ news := List.mem_append_left _ SJ.me
  have hD := lt_mem h1.2.2 _ mD
  have hD2 := lt_mem h2.2.2.2 _ mD
  have o2 := SJ.off _ mD wd (.tail _ (.head _))
  refine r (fun n => [k0, k1, k2, k3, k4, k5, k6].getD (n - 66) 0) ((en, oe) :: (lt, listOf [].toArray 0) :: (whl, instObj 740 wd) :: (wd, dictOf [⟨PyData.keyHash w.params (Str.ofString "size"), .str (Str.ofString "size") k0, .int 16 k1⟩, ⟨PyData.keyHash w.params (Str.ofString "slots"), .str (Str.ofString "slots") k2, .ref D⟩, ⟨PyData.keyHash w.params (Str.ofString "late"), .str (Str.ofString "late") k3, .ref lt⟩, ⟨PyData.keyHash w.params (Str.ofString "entries"), .str (Str.ofString "entries") k4, .ref en⟩, ⟨PyData.keyHash w.params (Str.ofString "reached"), .str (Str.ofString "reached") k5, .none⟩, ⟨PyData.keyHash w.params (Str.ofString "given"), .str (Str.ofString "given") k6, .int 0 tg⟩] 6) :: nw) (.tail _ (.tail _ (.head _))) (.tail _ (.tail _ (.tail _ (.head _)))) ⟨lo, Nat.ne_of_gt h2.2.1, Nat.ne_of_gt h2.2.2.1, Nat.ne_of_gt hD2, Nat.ne_of_gt h2.1, Nat.ne_of_lt l2, fun e => o2 e.symm, Nat.ne_of_lt h1.2.1⟩ ⟨(fun _ hp => nomatch hp), ?_, ?_, ?_⟩ (fun q hq => ?_) N
  · refine ⟨ys, ys.length, .tail _ (.tail _ (.tail _ (.tail _ SJ.me))), fun j hj => ?_⟩
    obtain ⟨a, e, hm, hn⟩ := SJ.sl j hj
    have hm' : (a, listOf [].toArray 0) ∈ nw ++ news := List.mem_append_left _ hm
    exact ⟨a, [], [], 0, e, .tail _ (.tail _ (.tail _ (.tail _ hm))), .nil, Nat.le_refl _, SJ.off _ hm' whl (.head _), SJ.off _ hm' wd (.tail _ (.head _)), hn, Nat.ne_of_lt (lt_mem h1.2.2 _ hm'), Nat.ne_of_lt (lt_mem h2.2.2.2 _ hm')⟩
  · exact ⟨0, .tail _ (.head _)⟩
  · exact ⟨oe, [], .head _, hi, Nat.le_refl _, fun _ _ => rfl, fun _ _ h => nomatch h⟩
  · rcases List.mem_cons.mp hq with rfl | hq
    · exact fun p hp => Nat.ne_of_lt (lt_mem h2.2.2.2 _ (List.mem_append_right _ hp))
    · rcases List.mem_cons.mp hq with rfl | hq
      · exact fun p hp => Nat.ne_of_lt (lt_mem h1.2.2 _ (List.mem_append_right _ hp))
      · rcases List.mem_cons.mp hq with rfl | hq
        · exact fun p hp => Nat.ne_of_lt (Nat.lt_trans (l1 p hp) l2)
        · rcases List.mem_cons.mp hq with rfl | hq
          · exact fun p hp => Nat.ne_of_lt (l1 p hp)
          · exact SJ.new q hq
theorem frame_new {h : Heap} {news pub prv new : List (Addr × Obj)} (sp : Spl prv news pub) (off : OwnOff prv (pub.map (·.1))) (hn : ∀ q ∈ new, ∀ p ∈ news, p.1 ≠ q.1) (N : News h₀ L h (new ++ news)) : News h₀ L h (pub ++ (new ++ prv)) ∧ OwnOff (new ++ prv) (pub.map (·.1)) := by
  have e := sp.eq
  subst e
  refine ⟨fun p hp => ?_, fun p hp b hb => ?_⟩
  · rcases List.mem_append.mp hp with hp | hp
    · exact N p (List.mem_append_right _ (List.mem_append_left _ hp))
    · rcases List.mem_append.mp hp with hp | hp
      · exact N p (List.mem_append_left _ hp)
      · exact N p (List.mem_append_right _ (List.mem_append_right _ hp))
  · rcases List.mem_append.mp hp with hp | hp
    · obtain ⟨q, hq, rfl⟩ := List.mem_map.mp hb
      exact (hn p hp q (List.mem_append_left _ hq)).symm
    · exact off p hp b hb
theorem WI.grow {w : World} {whl wd sl lt en : Addr} {tm : Int → Option Int} {bd : Nat} {kp prv prv' : List (Addr × Obj)} (W : WI w whl wd sl lt en tm bd kp prv) (h : ∀ p ∈ prv, p ∈ prv') : WI w whl wd sl lt en tm bd kp prv' where
  kps := fun p hp => ⟨h _ (W.kps p hp).1, (W.kps p hp).2⟩
  sls := by
    obtain ⟨svs, n, h1, h2⟩ := W.sls
    refine ⟨svs, n, h _ h1, fun j hj => ?_⟩
    obtain ⟨x, vs, ns, n', h3, h4, h5⟩ := h2 j hj
    exact ⟨x, vs, ns, n', h3, h _ h4, h5⟩
  lat := by
    obtain ⟨n, h1⟩ := W.lat
    exact ⟨n, h _ h1⟩
  ents := by
    obtain ⟨oe, kvs, h1, h2, h3, h4, h5⟩ := W.ents
    refine ⟨oe, kvs, h _ h1, h2, h3, h4, fun key t ht => ?_⟩
    obtain ⟨ta, t1, g, t2, nt, a, b⟩ := h5 key t ht
    exact ⟨ta, t1, g, t2, nt, a, h _ b⟩
end
theorem rowsT11x2 : True := by
  k_with "CompSrc" => (k_here; k_dflt (refine LCg.CompSrc.range (by rfl) (by k_asm) (by k_asm) (by assumption) (by first | decide | rfl) (by first | rfl | decide) (by first | size_fits | exact Nat.le_of_ble_eq_true rfl) ?_; intro g'; refine comp_lists0 (fun ys9 new9 J9 => ?_); refine finE_fold J9 (by assumption) (by assumption) ?_; intro D9 h9 tk9 nw9 prv9 F9 N9 SJ9 off9; (try k_sweep)))
  exact True.intro
set_option maxRecDepth 100000 in
set_option maxHeartbeats 8000000 in
theorem wheel_new {w : World} {mean : ExcName → Option Value} {mg mb : Str → Option Value} (dp un : Nat) (gd : Option (List Code)) (cn : Str) (cs : Scope) (a : Addr) (ccd : Value) (cl : List (Str × Addr)) (outer : List Env) (A₀ : Around) (base h₀ : Heap) (L : Addr) (m : Str → Option Value) (s : Shared) (Q E : Value → Shared → Prop)
    (news : List (Addr × Obj))
    (B : Below A₀ base outer h₀) (F : Fr h₀ L s.heap m) (X : (Tr.pre.heap_1_39 w.params).In h₀) (N : News h₀ L s.heap news)
    (T : Top Tr.pre.view_1_40 (looseW Tr.pre.view_1_40 [Str.ofString "Sender", Str.ofString "Tcb"]) mean mg mb h₀) (hk : cs.kind = .function)
    (hdp : dp + 3 < recursionLimit) 
    (hret : ∀ (whl wd sl lt en : Addr) (k : Nat → Tok) (tg : Tok) (new : List (Addr × Obj)) h' tk', (whl, instObj 740 wd) ∈ new → (wd, oW w.params k sl lt en 0 tg) ∈ new → WSt whl wd sl lt en → WI w whl wd sl lt en (fun _ => none) 0 [] new → (∀ q ∈ new, ∀ p ∈ news, p.1 ≠ q.1) → Fr h₀ L h' m → News h₀ L h' (new ++ news) → Q (.ref whl) { s with heap := h', toks := tk' }) :
    wpAny (model Challenge.rw_xw0347_01.row.prog w) (ktrTop dp un gd cn cs L a ccd cl outer) (call (.ref 740) []) Q E s := by
  revert X; k_fill; intro X
  k_dflt (refine' call_cls ?k1 ?k2 ?k3 ?k4 ?k5 ?k6 ?_; (case k1 => k_asm); (case k2 => k_asm); (case k3 => k_asm); (case k4 => k_is); (case k5 => k_is); (case k6 => k_is); k_whole; intro x' d' h' F' N' l1 l2; (try k_lt l1); (try k_lt2 l2); (try k_sweep); (refine' code_def ?k1 ?k2 ?k3 ?k4 ?k5 ?kA ?kF ?kK ?k6 ?k7 ?k8 ?k9 ?kB ?_ ?c2 ?c3 ?c4 ?c5; (case kA => exact rfl); (case kF => exact rfl); (case kK => assumption); (case k1 => k_asm); (case k2 => k_asm); (case k3 => k_asm); (case k4 => k_asm); (case k5 => k_asm); (case k6 => k_is); (case k7 => k_is); (case k8 => ktr_room); (case k9 => exact binds_K (by k_in) rfl (by k_is) rfl rfl rfl); (case c5 => decide); (case kB => exact locs rfl); (case c2 => exact rfl); (case c3 => exact rfl); (case c4 => exact rfl); k_whole; intro g' L' h' FG' F' N' B' X' T'; (try dsimp only); (try k_fold)))
  k_steps
  exact wheel_end (by assumption) (by assumption) (by assumption) (by assumption) (by assumption) (by assumption) (by assumption) (by assumption) (fun k new a b c d e g => hret _ _ _ _ _ k _ new _ _ a b c d e (by assumption) g)
theorem wheelW {w : World} {mean : ExcName → Option Value} {mg mb : Str → Option Value} (dp un : Nat) (gd : Option (List Code)) (cn : Str) (cs : Scope) (a : Addr) (ccd : Value) (cl : List (Str × Addr)) (outer : List Env) (A₀ : Around) (base h₀ : Heap) (L : Addr) (m : Str → Option Value) (s : Shared) (Q E : Value → Shared → Prop)
    (news pub prv : List (Addr × Obj))
    (B : Below A₀ base outer h₀) (F : Fr h₀ L s.heap m) (X : (Tr.pre.heap_1_39 w.params).In h₀) (N : News h₀ L s.heap news)
    (T : Top Tr.pre.view_1_40 (looseW Tr.pre.view_1_40 [Str.ofString "Sender", Str.ofString "Tcb"]) mean mg mb h₀) (hk : cs.kind = .function) (hdp : dp + 3 < recursionLimit) (sp : Spl prv news pub) (off : OwnOff prv (pub.map (·.1)))
    (hret : ∀ whl wd sl lt en (k : Nat → Tok) tg nw prv2 h' tk', prv2 = nw ++ prv → (whl, instObj 740 wd) ∈ nw → (wd, oW w.params k sl lt en 0 tg) ∈ nw → WSt whl wd sl lt en → WI w whl wd sl lt en (fun _ => none) 0 [] nw → (∀ q ∈ nw, ∀ p ∈ news, p.1 ≠ q.1) → OwnOff prv2 (pub.map (·.1)) → Fr h₀ L h' m → News h₀ L h' (pub ++ prv2) → Q (.ref whl) { s with heap := h', toks := tk' }) :
    wpAny (model Challenge.rw_xw0347_01.row.prog w) (ktrTop dp un gd cn cs L a ccd cl outer) (call (.ref 740) []) Q E s := by
  refine wheel_new dp un gd cn cs a ccd cl outer A₀ base h₀ L m s Q E news B F X N T hk hdp (fun whl wd sl lt en k tg new h' tk' a b c d e F' N' => ?_)
  obtain ⟨NN, OO⟩ := frame_new sp off e N'
  exact hret whl wd sl lt en k tg new (new ++ prv) h' tk' rfl a b c d e OO F' NN
end
-- T12
section
theorem rowsT12x1 : True := by
  k_with_none
  k_with "data" => (repeat ((fail_if_success (refine Classical.byContradiction ?_)); rotate_left))
  k_with "callWith ref" => (k_here; k_dflt (refine' callWith_K (by with_reducible assumption) (by k_is) ?_; k_whole))
  k_with "callWith ref" => (k_here; (with_reducible show wpAny _ _ (callWith _ _ _ (backTo _ (starEach [] _)) []) _ _ _); (with_reducible rename Fr _ _ _ _ => kF); k_dflt (refine' callWith_K0 (Frag.In.keeps (by with_reducible assumption) (Fr.keep kF)) (by k_is) ?_; k_whole))
  exact True.intro
theorem sender_k {w : World} {mean : ExcName → Option Value} {mg mb : Str → Option Value} (dp un : Nat) (gd : Option (List Code)) (cn : Str) (cs : Scope) (a : Addr) (ccd : Value) (cl : List (Str × Addr)) (outer : List Env) (A₀ : Around) (base h₀ : Heap) (L : Addr) (m : Str → Option Value) (s : Shared) (Q E : Value → Shared → Prop)
    (ti tr tq tm : Tok) (news : List (Addr × Obj))
    (B : Below A₀ base outer h₀) (F : Fr h₀ L s.heap m) (X : (Tr.pre.heap_1_39 w.params).In h₀) (N : News h₀ L s.heap news)
    (T : Top Tr.pre.view_1_40 (looseW Tr.pre.view_1_40 [Str.ofString "Sender", Str.ofString "Tcb"]) mean mg mb h₀) (hk : cs.kind = .function) (hdp : dp + 6 < recursionLimit)
    (hret : ∀ (i d pe pd qu qd : Addr) (kS kP kQ : Nat → Tok) h' tk', (∀ p ∈ news, p.1 < d) → @LT.lt Nat _ d i → @LT.lt Nat _ i pd → @LT.lt Nat _ pd pe → @LT.lt Nat _ pe qd → @LT.lt Nat _ qd qu → Fr h₀ L h' m → News h₀ L h' ((qu, instObj 433 qd) :: (qd, oQ w.params kQ #[]) :: (pe, instObj 475 pd) :: (pd, oPX w.params kP .none 0 0 0) :: (i, instObj 666 d) :: (d, oS w.params kS pe qu 253 253 253 true false) :: news) → Q (.ref i) { s with heap := h', toks := tk' }) :
    wpAny (model Challenge.rw_xw0347_01.row.prog w) (ktrTop dp un gd cn cs L a ccd cl outer) (call (.ref 666) [.int 253 ti, .int 256 tr, .int 4 tq, .int 40 tm]) Q E s :=
  sender_new dp un gd cn cs a ccd cl outer A₀ base h₀ L m s Q E ti tr tq tm news B F X N T hk hdp (fun i d pe pd qu qd p0 p1 p2 p3 p4 p5 p6 p7 w0 w1 w2 q0 q1 q2 q3 q4 q5 q6 q7 q8 q9 q10 h' tk' a1 a2 a3 a4 a5 a6 F' N' => hret i d pe pd qu qd (fun n => [q0, ti, q1, tr, q2, tq, q3, ti, q4, ti, q5, ti, q6, q7, q8, q9, q10].getD (n - 0) 0) (fun n => [p0, tr, p1, p2, p3, p4, p5, 0, p6, p7].getD (n - 17) 0) (fun n => [w0, tm, w1, w2].getD (n - 27) 0) h' tk' a1 a2 a3 a4 a5 a6 F' N')
theorem clock_k {w : World} {mean : ExcName → Option Value} {mg mb : Str → Option Value} (dp un : Nat) (gd : Option (List Code)) (cn : Str) (cs : Scope) (a : Addr) (ccd : Value) (cl : List (Str × Addr)) (outer : List Env) (A₀ : Around) (base h₀ : Heap) (L : Addr) (m : Str → Option Value) (s : Shared) (Q E : Value → Shared → Prop)
    (li ld : Addr) (t0 u0 t1 u1 t2 u2 t3 u3 t4 u4 t5 u5 t6 u6 t7 u7 t8 u8 t9 u9 : Tok) (news : List (Addr × Obj))
    (B : Below A₀ base outer h₀) (F : Fr h₀ L s.heap m) (X : (Tr.pre.heap_1_39 w.params).In h₀) (N : News h₀ L s.heap news)
    (T : Top Tr.pre.view_1_40 (looseW Tr.pre.view_1_40 [Str.ofString "Sender", Str.ofString "Tcb"]) mean mg mb h₀) (hk : cs.kind = .function) (hdp : dp + 5 < recursionLimit) (m0 : (li, instObj 761 ld) ∈ news) (m1 : (ld, dictOf [⟨PyData.keyHash w.params (Str.ofString "ring"), .str (Str.ofString "ring") t0, .int 256 u0⟩, ⟨PyData.keyHash w.params (Str.ofString "mss"), .str (Str.ofString "mss") t1, .int 4 u1⟩, ⟨PyData.keyHash w.params (Str.ofString "send_room"), .str (Str.ofString "send_room") t2, .int 40 u2⟩, ⟨PyData.keyHash w.params (Str.ofString "receive_room"), .str (Str.ofString "receive_room") t3, .int 16 u3⟩, ⟨PyData.keyHash w.params (Str.ofString "first_timeout"), .str (Str.ofString "first_timeout") t4, .int 10 u4⟩, ⟨PyData.keyHash w.params (Str.ofString "least_timeout"), .str (Str.ofString "least_timeout") t5, .int 5 u5⟩, ⟨PyData.keyHash w.params (Str.ofString "most_timeout"), .str (Str.ofString "most_timeout") t6, .int 60 u6⟩, ⟨PyData.keyHash w.params (Str.ofString "most_tries"), .str (Str.ofString "most_tries") t7, .int 3 u7⟩, ⟨PyData.keyHash w.params (Str.ofString "ack_delay"), .str (Str.ofString "ack_delay") t8, .int 2 u8⟩, ⟨PyData.keyHash w.params (Str.ofString "time_wait"), .str (Str.ofString "time_wait") t9, .int 7 u9⟩] 10) ∈ news)
    (hret : ∀ (clk cd est ed : Addr) (kC kE : Nat → Tok) h' tk', (∀ p ∈ news, p.1 < ed) → @LT.lt Nat _ ed est → @LT.lt Nat _ est cd → @LT.lt Nat _ cd clk → Fr h₀ L h' m → News h₀ L h' ((clk, instObj 277 cd) :: (cd, oC w.params kC est 0) :: (est, instObj 333 ed) :: (ed, oE w.params kE) :: news) → Q (.ref clk) { s with heap := h', toks := tk' }) :
    wpAny (model Challenge.rw_xw0347_01.row.prog w) (ktrTop dp un gd cn cs L a ccd cl outer) (call (.ref 772) [.ref li]) Q E s :=
  clock_new dp un gd cn cs a ccd cl outer A₀ base h₀ L m s Q E li ld t0 u0 t1 u1 t2 u2 t3 u3 t4 u4 t5 u5 t6 u6 t7 u7 t8 u8 t9 u9 news B F X N T hk hdp m0 m1 (fun clk cd est ed e0 e1 e2 e3 e4 e5 e6 e7 e8 c0 c1 c2 c3 c4 c5 c6 h' tk' a1 a2 a3 a4 F' N' => hret clk cd est ed (fun n => [c0, c1, u7, c2, c3, c4, c5, c6].getD (n - 31) 0) (fun n => [e0, u4, e1, u5, e2, u6, e3, e4, e5, e6, e7, e8].getD (n - 39) 0) h' tk' a1 a2 a3 a4 F' N')
theorem nw_tail {nw prv : List (Addr × Obj)} {q1 q2 q3 q4 q5 q6 q7 q8 q9 q10 q11 q12 : Addr × Obj} (h : ∀ q ∈ nw, ∀ p ∈ q1 :: q2 :: q3 :: q4 :: q5 :: q6 :: q7 :: q8 :: q9 :: q10 :: q11 :: q12 :: prv, p.1 ≠ q.1) : ∀ q ∈ nw, ∀ p ∈ prv, p.1 ≠ q.1 := fun q hq p hp => h q hq p (by repeat (first | exact hp | refine .tail _ ?_))
theorem ne_lo {d a : Nat} {l : List (Addr × Obj)} (h : ∀ p ∈ l, p.1 < d) (h2 : @LT.lt Nat _ d a) : ∀ p ∈ l, p.1 ≠ a := fun p hp => Nat.ne_of_lt (Nat.lt_trans (h p hp) h2)
theorem ne_lo0 {a : Nat} {l : List (Addr × Obj)} (h : ∀ p ∈ l, p.1 < a) : ∀ p ∈ l, p.1 ≠ a := fun p hp => Nat.ne_of_lt (h p hp)
theorem news_td {w : World} {h₀ h : Heap} {L : Addr} {a0 a1 a2 a3 a4 a5 a6 a7 a8 a9 a10 : Addr × Obj} {prv : List (Addr × Obj)} {td li lo re snd clk cg ak whl : Addr} {st : Str} {ts tp x0 x1 x2 x3 x4 x5 x6 x7 x8 x9 x10 x11 x12 x13 x14 : Tok} (N : News h₀ L h (a0 :: a1 :: a2 :: a3 :: a4 :: a5 :: a6 :: a7 :: a8 :: a9 :: a10 :: (td, dictOf [⟨PyData.keyHash w.params (Str.ofString "limits"), .str (Str.ofString "limits") x0, .ref li⟩, ⟨PyData.keyHash w.params (Str.ofString "local"), .str (Str.ofString "local") x1, .ref lo⟩, ⟨PyData.keyHash w.params (Str.ofString "remote"), .str (Str.ofString "remote") x2, .ref re⟩, ⟨PyData.keyHash w.params (Str.ofString "state"), .str (Str.ofString "state") x3, .str st ts⟩, ⟨PyData.keyHash w.params (Str.ofString "sender"), .str (Str.ofString "sender") x4, .ref snd⟩, ⟨PyData.keyHash w.params (Str.ofString "receiver"), .str (Str.ofString "receiver") x5, .none⟩, ⟨PyData.keyHash w.params (Str.ofString "clock"), .str (Str.ofString "clock") x6, .ref clk⟩, ⟨PyData.keyHash w.params (Str.ofString "congestion"), .str (Str.ofString "congestion") x7, .ref cg⟩, ⟨PyData.keyHash w.params (Str.ofString "acks"), .str (Str.ofString "acks") x8, .ref ak⟩, ⟨PyData.keyHash w.params (Str.ofString "wheel"), .str (Str.ofString "wheel") x9, .ref whl⟩, ⟨PyData.keyHash w.params (Str.ofString "error"), .str (Str.ofString "error") x10, .none⟩, ⟨PyData.keyHash w.params (Str.ofString "probes"), .str (Str.ofString "probes") x11, .int 0 tp⟩, ⟨PyData.keyHash w.params (Str.ofString "unanswered"), .str (Str.ofString "unanswered") x12, .int 0 x13⟩, ⟨PyData.keyHash w.params (Str.ofString "is_nagle"), .str (Str.ofString "is_nagle") x14, .bool true⟩] 14) :: prv)) :
    News h₀ L h (a0 :: a1 :: a2 :: a3 :: a4 :: a5 :: a6 :: a7 :: a8 :: a9 :: a10 :: (td, oTX w.params (fun n => [x0, x1, x2, x3, x4, x5, x6, x7, x8, x9, x10, x11, x12, x13, x14].getD (n - 51) 0) li lo re snd .none clk cg ak whl st ts 0 tp) :: prv) := N
theorem mem_lt9' {p : Addr × Obj} {l : List (Addr × Obj)} (h : p ∈ l) : List.Mem p l := h
local macro_rules | `(tactic| k_mem) => `(tactic| (refine mem_lt9' ?_; with_reducible assumption))
theorem rowsT12x2 : True := by
  k_with "call ref" => (k_here; (with_reducible show wpAny _ _ (call (Value.ref 666) _) _ _ _); k_dflt ((refine' sender_k _ _ _ _ _ _ _ _ _ _ _ _ _ _ _ _ _ _ _ _ _ _ (by k_asm) (by k_asm) (by k_asm) (by k_asm) (by k_asm) (by first | exact rfl | assumption) (by ktr_room) ?_; (intro i9 d9 pe9 pd9 qu9 qd9 kS9 kP9 kQ9 h9 tk9 l1 l2 l3 l4 l5 l6 F9 N9); (try k_lt l1); (try k_lt2 l2); (try k_sweep))))
  k_with "call ref" => (k_here; (with_reducible show wpAny _ _ (call (Value.ref 772) _) _ _ _); k_dflt ((refine' clock_k _ _ _ _ _ _ _ _ _ _ _ _ _ _ _ _ _ _ _ _ _ _ _ _ _ _ _ _ _ _ _ _ _ _ _ _ _ _ _ _ (by k_asm) (by k_asm) (by k_asm) (by k_asm) (by k_asm) (by first | exact rfl | assumption) (by ktr_room) (by k_mem) (by k_mem) ?_; (intro c9 cd9 es9 ed9 kC9 kE9 h9 tk9 l1 l2 l3 l4 F9 N9); (try k_lt l1); (try k_lt2 l2); (try k_sweep))))
  k_with "call ref" => (k_here; (with_reducible show wpAny _ _ (call (Value.ref 740) _) _ _ _); k_dflt ((refine' wheelW _ _ _ _ _ _ _ _ _ _ _ _ _ _ _ _ _ _ _ _ (by k_asm) (by k_asm) (by k_asm) (by k_asm) (by k_asm) (by first | exact rfl | assumption) (by ktr_room) (by exact (Spl.cons (Spl.cons (Spl.cons (Spl.cons (Spl.cons (Spl.cons (Spl.cons (Spl.cons (Spl.cons (Spl.cons (Spl.cons (Spl.cons Spl.nil))))))))))))) (by (dsimp only [List.map]; (repeat' (first | exact own_nil | refine' own_cons ?_ ?_)) <;> first | exact ne_lo0 (by assumption) | (refine' ne_lo (by assumption) (by omega)))) ?_; (intro whl9 wd9 sl9 lt9 en9 kW9 tg9 nw9 prv9 h9 tk9 eq9 m09 m19 S9 W9 in9 O9 F9 N9); (have in9 := nw_tail in9); (try dsimp only [List.map] at O9); (try simp only [List.cons_append, List.nil_append] at N9); (try k_sweep))))
  k_with "call ref" => (k_here; (with_reducible show wpAny _ _ (call (Value.ref 165) _) _ _ _); k_dflt ((refine' cong_new _ _ _ _ _ _ _ _ _ _ _ _ _ _ _ _ _ _ _ _ _ (by k_asm) (by k_asm) (by k_asm) (by k_asm) (by k_asm) (by first | exact rfl | assumption) (by ktr_room) ?_; (intro i9 d9 q0 q1 q2 q3 q4 q5 q6 q7 q8 q9 h9 tk9 l1 l2 F9 N9'); (have N9 := news_tl (news_tl N9')); (clear N9' l1 l2); (try k_sweep))))
  k_with "call ref" => (k_here; (with_reducible show wpAny _ _ (call (Value.ref 74) _) _ _ _); k_dflt ((refine' ack_new _ _ _ _ _ _ _ _ _ _ _ _ _ _ _ _ _ _ _ (by k_asm) (by k_asm) (by k_asm) (by k_asm) (by k_asm) (by first | exact rfl | assumption) (by ktr_room) ?_; (intro i9 d9 q0 q1 q2 q3 q4 h9 tk9 l1 l2 F9 N9'); (have N9 := news_tl (news_tl N9')); (clear N9' l1 l2); (try k_sweep))))
  exact True.intro
set_option maxRecDepth 100000 in
set_option maxHeartbeats 8000000 in
theorem tcb_new {w : World} {mean : ExcName → Option Value} {mg mb : Str → Option Value} (dp un : Nat) (gd : Option (List Code)) (cn : Str) (cs : Scope) (a : Addr) (ccd : Value) (cl : List (Str × Addr)) (outer : List Env) (A₀ : Around) (base h₀ : Heap) (L : Addr) (m : Str → Option Value) (s : Shared) (Q E : Value → Shared → Prop)
    (li ld lo re : Addr) (t0 u0 t1 u1 t2 u2 t3 u3 t4 u4 t5 u5 t6 u6 t7 u7 t8 u8 t9 u9 ti : Tok) (news : List (Addr × Obj))
    (B : Below A₀ base outer h₀) (F : Fr h₀ L s.heap m) (X : (Tr.pre.heap_1_39 w.params).In h₀) (N : News h₀ L s.heap news)
    (T : Top Tr.pre.view_1_40 (looseW Tr.pre.view_1_40 [Str.ofString "Sender", Str.ofString "Tcb"]) mean mg mb h₀) (hk : cs.kind = .function)
    (hdp : dp + 10 < recursionLimit) (m0 : (li, instObj 761 ld) ∈ news) (m1 : (ld, dictOf [⟨PyData.keyHash w.params (Str.ofString "ring"), .str (Str.ofString "ring") t0, .int 256 u0⟩, ⟨PyData.keyHash w.params (Str.ofString "mss"), .str (Str.ofString "mss") t1, .int 4 u1⟩, ⟨PyData.keyHash w.params (Str.ofString "send_room"), .str (Str.ofString "send_room") t2, .int 40 u2⟩, ⟨PyData.keyHash w.params (Str.ofString "receive_room"), .str (Str.ofString "receive_room") t3, .int 16 u3⟩, ⟨PyData.keyHash w.params (Str.ofString "first_timeout"), .str (Str.ofString "first_timeout") t4, .int 10 u4⟩, ⟨PyData.keyHash w.params (Str.ofString "least_timeout"), .str (Str.ofString "least_timeout") t5, .int 5 u5⟩, ⟨PyData.keyHash w.params (Str.ofString "most_timeout"), .str (Str.ofString "most_timeout") t6, .int 60 u6⟩, ⟨PyData.keyHash w.params (Str.ofString "most_tries"), .str (Str.ofString "most_tries") t7, .int 3 u7⟩, ⟨PyData.keyHash w.params (Str.ofString "ack_delay"), .str (Str.ofString "ack_delay") t8, .int 2 u8⟩, ⟨PyData.keyHash w.params (Str.ofString "time_wait"), .str (Str.ofString "time_wait") t9, .int 7 u9⟩] 10) ∈ news)
    (hret : ∀ (clk cd est ed qu qd pe pd snd sd tcb td cg ak whl wd sl lt en : Addr) (kC kE kQ kP kS kT kW : Nat → Tok) (st : Str) (ts tp tg : Tok) (nw prv : List (Addr × Obj)) h' tk', @LT.lt Nat _ td tcb → @LT.lt Nat _ tcb sd → @LT.lt Nat _ sd snd → @LT.lt Nat _ snd pd → @LT.lt Nat _ pd pe → @LT.lt Nat _ pe qd → @LT.lt Nat _ qd qu → @LT.lt Nat _ qu ed → @LT.lt Nat _ ed est → @LT.lt Nat _ est cd → @LT.lt Nat _ cd clk → (∀ p ∈ news, p.1 < td) → prv = nw ++ news → (whl, instObj 740 wd) ∈ nw → (wd, oW w.params kW sl lt en 0 tg) ∈ nw → WSt whl wd sl lt en → WI w whl wd sl lt en (fun _ => none) 0 [] nw → (∀ q ∈ nw, ∀ p ∈ news, p.1 ≠ q.1) → OwnOff prv [clk, cd, est, ed, qu, qd, pe, pd, snd, sd, tcb, td] → Fr h₀ L h' m → News h₀ L h' ((clk, instObj 277 cd) :: (cd, oC w.params kC est 0) :: (est, instObj 333 ed) :: (ed, oE w.params kE) :: (qu, instObj 433 qd) :: (qd, oQ w.params kQ #[]) :: (pe, instObj 475 pd) :: (pd, oPX w.params kP .none 0 0 0) :: (snd, instObj 666 sd) :: (sd, oS w.params kS pe qu 253 253 253 true false) :: (tcb, instObj 804 td) :: (td, oTX w.params kT li lo re snd .none clk cg ak whl st ts 0 tp) :: prv) → Q (.ref tcb) { s with heap := h', toks := tk' }) :
    wpAny (model Challenge.rw_xw0347_01.row.prog w) (ktrTop dp un gd cn cs L a ccd cl outer) (call (.ref 804) [.ref li, .ref lo, .ref re, .int 253 ti]) Q E s := by
  revert X; k_fill; intro X
  k_dflt (refine' call_cls ?k1 ?k2 ?k3 ?k4 ?k5 ?k6 ?_; (case k1 => k_asm); (case k2 => k_asm); (case k3 => k_asm); (case k4 => k_is); (case k5 => k_is); (case k6 => k_is); k_whole; intro x' d' h' F' N' l1 l2; (try k_lt l1); (try k_lt2 l2); (try k_sweep); ktr_enter)
  k_steps
  refine' hret _ _ _ _ _ _ _ _ _ _ _ _ _ _ _ _ _ _ _ _ _ _ _ _ _ _ _ _ _ _ _ _ _ _ ?zz0 ?zz1 ?zz2 ?zz3 ?zz4 ?zz5 ?zz6 ?zz7 ?zz8 ?zz9 ?zz10 ?zz11 ?zz12 ?zz13 ?zz14 ?zz15 ?zz16 ?zz17 ?zz18 ?zzF (news_td ?zzN); (case zzN => k_asm); (case zzF => k_asm); (case zz0 => first | assumption | omega); (case zz1 => first | assumption | omega); (case zz2 => first | assumption | omega); (case zz3 => first | assumption | omega); (case zz4 => first | assumption | omega); (case zz5 => first | assumption | omega); (case zz6 => first | assumption | omega); (case zz7 => first | assumption | omega); (case zz8 => first | assumption | omega); (case zz9 => first | assumption | omega); (case zz10 => first | assumption | omega); (case zz11 => first | assumption | omega); (case zz12 => first | assumption | omega); (case zz13 => first | assumption | omega); (case zz14 => first | assumption | omega); (case zz15 => first | assumption | omega); (case zz16 => first | assumption | omega); (case zz17 => first | assumption | omega); (case zz18 => first | assumption | omega)
end
-- T13
section
theorem news_sub0 {h₀ h : Heap} {L : Addr} {l l' : List (Addr × Obj)} (N : News h₀ L h l) (hs : ∀ p ∈ l', p ∈ l) : News h₀ L h l' := fun p hp => N p (hs p hp)
def StopF (f : Flow) (p : Prop) : Prop := f = .next ∧ p
section
variable {M : Model} {A : Around} {E : Value → Shared → Prop} {s : Shared} {env : Env}
theorem execsF_cut {st : Stmt} {rest : List Stmt} {Q : Flow → Shared → Prop} (h : wpF M A (exec st env) (fun f s' => StopF f (wpF M A (execs rest env) Q E s')) E s) : wpF M A (execs (st :: rest) env) Q E s :=
  execsF_cons (wpF_mono h (fun f s' h' => by obtain ⟨rfl, h'⟩ := h'; exact h') fun _ _ x => x)
theorem execsF_cutP {st : Stmt} {rest : List Stmt} {Q : Flow → Shared → Prop} (h : ∀ P : Shared → Prop, (∀ s', wpF M A (execs rest env) Q E s' → P s') → wpF M A (exec st env) (fun f s' => StopF f (P s')) E s) : wpF M A (execs (st :: rest) env) Q E s :=
  execsF_cut (h _ (fun _ x => x))
theorem stopF {Q : Prop} (h : Q) : StopF .next Q := ⟨rfl, h⟩
end
theorem rowsT13x1 : True := by
  k_with_none
  k_with "data" => (repeat ((fail_if_success (refine Classical.byContradiction ?_)); rotate_left))
  k_with "callWith ref" => (k_here; k_dflt (refine' callWith_K (by with_reducible assumption) (by k_is) ?_; k_whole))
  k_with "callWith ref" => (k_here; (with_reducible show wpAny _ _ (callWith _ _ _ (backTo _ (starEach [] _)) []) _ _ _); (with_reducible rename Fr _ _ _ _ => kF); k_dflt (refine' callWith_K0 (Frag.In.keeps (by with_reducible assumption) (Fr.keep kF)) (by k_is) ?_; k_whole))
  k_with "StopF" => fail "stop"
  exact True.intro
set_option maxRecDepth 100000 in
set_option maxHeartbeats 8000000 in
theorem recv_F {w : World} {mean : ExcName → Option Value} {mg mb : Str → Option Value} (dp un : Nat) (gd : Option (List Code)) (cn : Str) (cs : Scope) (a : Addr) (ccd : Value) (cl : List (Str × Addr)) (outer : List Env) (A₀ : Around) (base h₀ : Heap) (L : Addr) (m : Str → Option Value) (s : Shared) (Q E : Value → Shared → Prop)
    (ta tb tc td : Tok) (news : List (Addr × Obj))
    (B : Below A₀ base outer h₀) (F : Fr h₀ L s.heap m) (X : (Tr.pre.heap_1_39 w.params).In h₀) (N : News h₀ L s.heap news)
    (T : Top Tr.pre.view_1_40 (looseW Tr.pre.view_1_40 [Str.ofString "Sender", Str.ofString "Tcb"]) mean mg mb h₀) (hk : cs.kind = .function) (hdp : dp + 6 < recursionLimit)
    (hret : ∀ rc h' tk', Fr h₀ L h' m → News h₀ L h' news → Q (.ref rc) { s with heap := h', toks := tk' }) :
    wpF (model Challenge.rw_xw0347_01.row.prog w) (ktrTop dp un gd cn cs L a ccd cl outer) (call (.ref 1048) [.int 250 ta, .int 256 tb, .int 16 tc, .int 4 td]) Q E s := by
  revert X; k_fill; intro X
  refine wpF_call ?_
  k_dflt (refine' makeF_K ?k1 ?k2 ?k3 ?k4 ?k5 ?k6 ?_; (case k1 => exact F); (case k2 => exact N); (case k3 => exact X.keeps F.keep); (case k4 => k_is); (case k5 => k_is); (case k6 => k_is); k_whole)
  intro x' d' h' F' N' l1 l2
  (try k_lt l1); (try k_lt2 l2); (try k_sweep)
  k_dflt (refine' codeF_def ?k1 ?k2 ?k3 ?k4 ?k5 ?kA ?kF ?kK ?k6 ?k7 ?k8 ?k9 ?kB ?_ ?c2 ?c3 ?c4 ?c5; (case kA => exact rfl); (case kF => exact rfl); (case kK => assumption); (case k1 => k_asm); (case k2 => k_asm); (case k3 => k_asm); (case k4 => k_asm); (case k5 => k_asm); (case k6 => k_is); (case k7 => k_is); (case k8 => ktr_room); (case k9 => exact binds_K (by k_in) rfl (by k_is) rfl rfl rfl); (case c5 => decide); (case kB => exact locs rfl); (case c2 => exact rfl); (case c3 => exact rfl); (case c4 => exact rfl); k_whole; intro g' L' h' FG' F' N' B' X' T'; (try dsimp only); (try k_fold))
  refine execsF_cut (wpF_of ?_)
  k_steps
  refine stopF ?_
  refine execsF_cut (wpF_of ?_)
  k_steps
  refine stopF ?_
  refine execsF_cut (wpF_of ?_)
  k_steps
  refine stopF ?_
  refine execsF_cut (wpF_of ?_)
  k_steps
  refine stopF ?_
  refine execsF_cut ?_
  k_dflt (refine assignF_attr ?_)
  refine exprF_call ?_
  k_steps
  refine callF_type (ba_K (by k_asm) (by k_asm) (fun D h' F' N' l1 => ?_))
  (try k_lt l1); (try k_sweep)
  k_steps
  refine stopF ?_
  refine wpF_of ?_
  k_steps
  refine' hret _ _ _ ?zzF (news_sub0 ?zzN ?zzS); (case zzN => k_asm); (case zzF => k_asm); (case zzS => exact fun p hp => by repeat (first | exact hp | refine .tail _ ?_))
end
-- T14
section
theorem norowsT14 : True := by
  k_with_none
  exact True.intro
set_option maxRecDepth 100000
theorem lk_ib : typeLookup (.type "int") "__bytes__" = pure none := by rw [typeLookup_type, builtinLookup_eq_fast]; kernel_rfl
theorem lk_ii : typeLookup (.type "int") "__index__" = pure (some (.builtin "int.__index__")) := by rw [typeLookup_type, builtinLookup_eq_fast]; kernel_rfl
theorem lk_bb : typeLookup (.type "bytes") "__bytes__" = pure (some (.builtin "bytes.__bytes__")) := by rw [typeLookup_type, builtinLookup_eq_fast]; kernel_rfl
section
variable {prog : Program} {w : World} {A : Around} {E : Value → Shared → Prop} {s : Shared}
theorem bm_new_b {b : Array UInt8} {t : Tok} {Q : Value → Shared → Prop} (hQ : Q (.bytes b t) s) :
    codeAny (model prog w) A (.call (.builtin "bytes.__new__") ⟨[.type "bytes", .bytes b t], []⟩) (wants Q E) s := by
  refine codeAny_of_tree ?_
  show wpAny _ A.in1 (do checkBuiltinCall "bytes.__new__" ⟨[.type "bytes", .bytes b t], []⟩; again (.builtin "bytes.__new__" ⟨[.type "bytes", .bytes b t], []⟩)) _ _ s
  refine wpAny_bind (wpAny_of_eq (F.bm_newCall _) (wpAny_pure ⟨plainId_quiet F.bm_plain _, codeAny_builtin F.bm_entry ?_⟩))
  rw [Around.under_plainId F.bm_plain _]
  unfold Builtin.«bytes.__new__»
  refine wpAny_bind (wpAny_of_eq (a := true) rfl ?_)
  refine bm_if_false rfl ?_
  refine wpAny_bind (wpAny_of_eq F.bm_sub ?_)
  refine bm_if_false rfl ?_
  refine wpAny_bind (wpAny_of_eq (F.bm_bind _) ?_)
  refine wpAny_bind (wpAny_of_eq (a := ()) rfl ?_)
  refine wpAny_bind (wpAny_of_eq (a := ()) rfl ?_)
  refine bm_if_false rfl ?_
  refine wpAny_bind (wpAny_specialOf_val (T := "bytes") rfl lk_bb ?_)
  split
  · refine wpAny_bind (wpAny_rule ?_)
    refine wpAny_bind (wpAny_of_eq (a := .type "bytes") rfl ?_)
    refine bm_if_true (by decide) ?_
    exact wpAny_of_eq (a := .done (.ret (.bytes b t))) rfl hQ
  · rename_i h2 h1
    exact absurd (Option.some.inj h1).symm h2
  · rename_i h1
    cases h1
theorem bm_new_i {i : Int} {t : Tok} {Q : Value → Shared → Prop} (h0 : 0 ≤ i) (h1 : i ≤ 64) (hQ : ∀ t tk, Q (.bytes (Array.replicate i.toNat 0) t) { s with toks := tk }) :
    codeAny (model prog w) A (.call (.builtin "bytes.__new__") ⟨[.type "bytes", .int i t], []⟩) (wants Q E) s := by
  refine codeAny_of_tree ?_
  show wpAny _ A.in1 (do checkBuiltinCall "bytes.__new__" ⟨[.type "bytes", .int i t], []⟩; again (.builtin "bytes.__new__" ⟨[.type "bytes", .int i t], []⟩)) _ _ s
  refine wpAny_bind (wpAny_of_eq (F.bm_newCall _) (wpAny_pure ⟨plainId_quiet F.bm_plain _, codeAny_builtin F.bm_entry ?_⟩))
  rw [Around.under_plainId F.bm_plain _]
  unfold Builtin.«bytes.__new__»
  refine wpAny_bind (wpAny_of_eq (a := true) rfl ?_)
  refine bm_if_false rfl ?_
  refine wpAny_bind (wpAny_of_eq F.bm_sub ?_)
  refine bm_if_false rfl ?_
  refine wpAny_bind (wpAny_of_eq (F.bm_bind _) ?_)
  refine wpAny_bind (wpAny_of_eq (a := ()) rfl ?_)
  refine wpAny_bind (wpAny_of_eq (a := ()) rfl ?_)
  refine bm_if_false rfl ?_
  refine wpAny_bind (wpAny_specialOf_val (T := "int") rfl lk_ib ?_)
  dsimp only
  refine wpAny_bind (wpAny_of_eq (a := false) rfl ?_)
  refine bm_if_false rfl ?_
  refine wpAny_bind (wpAny_specialOf_val (T := "int") rfl lk_ii ?_)
  refine bm_if_false rfl ?_
  refine wpAny_bind (wpAny_of_eq (a := .ok i) rfl ?_)
  dsimp only
  refine bm_if_false ?_ ?_
  · simp only [Builtin.Bytes.fitsIndex]
    have a1 : -2 ^ 63 ≤ i := by omega
    have a2 : i < 2 ^ 63 := by omega
    rw [decide_eq_true a1, decide_eq_true a2]; rfl
  rw [if_neg (by omega)]
  rw [if_neg (by omega)]
  refine bm_if_false ?_ ?_
  · simp only [Builtin.Bytes.tooLong]
    rw [sizeLine_eq]
    exact decide_eq_false (by omega)
  refine wpAny_bind (wpAny_rule ?_)
  refine wpAny_bind (wpAny_mkBytes ?_ ?_)
  · exact wpAny_of_eq (a := .done (.ret _)) rfl (hQ _ _)
  · rw [Array.size_replicate, sizeLine_eq]
    omega
theorem call_bytes_int {i : Int} {t : Tok} {Q : Value → Shared → Prop} (h0 : 0 ≤ i) (h1 : i ≤ 64) (hQ : ∀ t tk, Q (.bytes (Array.replicate i.toNat 0) t) { s with toks := tk }) : wpAny (model prog w) A (call (.type "bytes") [.int i t]) Q E s := by
  refine callType_codes (Q₁ := fun obj s₁ => s₁.TypeIs obj "bytes" ∧ Q obj s₁) F.bm_called (F.bm_typeCall _) F.entry_object_init
    (bm_new_i h0 h1 fun t k => ⟨PySem.W.typeIs_bytes _ _ _, hQ t k⟩) fun obj s₁ h₁ => ?_
  exact ⟨h₁.1, F.args_object_init_2 obj _, object_init_meets F.bm_called.init.lookup F.bm_called.made (by decide) prog w A.in1 _ s₁ ⟨h₁.1, rfl, h₁.2⟩⟩
theorem call_bytes_b {b : Array UInt8} {t : Tok} {Q : Value → Shared → Prop} (hQ : Q (.bytes b t) s) : wpAny (model prog w) A (call (.type "bytes") [.bytes b t]) Q E s := by
  refine callType_codes (Q₁ := fun obj s₁ => s₁.TypeIs obj "bytes" ∧ Q obj s₁) F.bm_called (F.bm_typeCall _) F.entry_object_init
    (bm_new_b ⟨PySem.W.typeIs_bytes _ _ _, hQ⟩) fun obj s₁ h₁ => ?_
  exact ⟨h₁.1, F.args_object_init_2 obj _, object_init_meets F.bm_called.init.lookup F.bm_called.made (by decide) prog w A.in1 _ s₁ ⟨h₁.1, rfl, h₁.2⟩⟩
end
end
-- T16
section
theorem norowsT16 : True := by
  k_with_none
  exact True.intro
set_option maxRecDepth 100000
theorem bounds_full (n : Nat) : sliceBounds none (some (n : Int)) none n = (0, (n : Int), 1) := by
  unfold sliceBounds
  simp
  omega
section
open PySem.W.KBy
open PySem.Builtin
theorem wpAny_ite_yes {α : Type} {M : Model} {A : Around} {E : Value → Shared → Prop} {s : Shared} {c : Bool} {a b : Sem α} {Q : α → Shared → Prop} (hc : c = true) (h : wpAny M A a Q E s) : wpAny M A (if c = true then a else b) Q E s := by
  subst hc; exact h
theorem meets_whole (b : Array UInt8) (t : Tok) (a : Addr) {n : Int} {u : Tok} (hn : n = b.size) (hne : b.isEmpty = false) :
    Meets («bytes.__getitem__» ⟨[.bytes b t, .ref a], []⟩) (fun _ R s => s.heap.IsSliceOf a .none (.int n u) .none ∧ R (.ok (.ret (.bytes b t))) s) := by
  refine .of_wp fun prog w A R s hS => ?_
  obtain ⟨⟨o, ho, hc, hd⟩, h⟩ := hS
  have hT : s.TypeIs (.ref a) "slice" := ⟨o, ho, hc⟩
  show wpAny _ _ (Bytes.payload (.bytes b t) >>= fun r => _) _ _ s
  refine wpAny_bind (wpAny_of_eq (a := b) rfl ?_)
  show wpAny _ _ (Bytes.subscript? (.ref a) >>= fun r => _) _ _ s
  refine wpAny_bind ?_
  unfold Bytes.subscript?
  refine wpAny_bind (wpAny_specialOf hT slice_no_index (wpAny_pure ?_))
  refine wpAny_bind (wpAny_typeOf hT ?_)
  show wpAny _ _ (Bytes.sliceParts (.ref a) >>= fun r => _) _ _ s
  refine wpAny_bind ?_
  unfold Bytes.sliceParts
  refine wpAny_bind (wpAny_field (x := .none) ho hd rfl ?_)
  kby_none
  refine wpAny_ite (ite_no (show ¬ ((Value.none == rawInt 0) = true) from Bool.false_ne_true) ?_)
  refine wpAny_bind (wpAny_field (x := .none) ho hd rfl ?_)
  have go : wpAny (model prog w) A.in1 (sliceIndices (rawPart none) (rawPart (some n)) (rawPart none) b.size) (fun r s' => r = sliceBounds none (some n) none b.size ∧ s' = s) (fun _ _ => False) s :=
    wpAny_of_eq (sliceIndices_raw none (some n) none b.size (fun e => nomatch e)) ⟨rfl, rfl⟩
  kby_none
  refine wpAny_bind (wpAny_field (x := .int _ _) ho hd rfl ?_)
  kby_int
  refine wpAny_pure ?_
  refine wpAny_bind (wpAny_mono go (fun r s' hr => ?_) fun _ _ e => e.elim)
  obtain ⟨hr1, hr2⟩ := hr
  rw [hn, bounds_full] at hr1
  subst hr1 hr2
  dsimp only
  refine wpAny_ite_yes (by rw [hne]; simp) ?_
  refine wpAny_bind (wpAny_of_eq (a := .type "bytes") rfl ?_)
  refine wpAny_ite_yes (by decide) ?_
  exact wpAny_bind (wpAny_rule (wpAny_of_eq (a := .done (.ret (.bytes b t))) rfl ⟨_, rfl, h⟩))
theorem slice_whole {prog : Program} {w : World} {A : Around} {E : Value → Shared → Prop} {s : Shared} {value slice : PySem.Expr} {b : Array UInt8} {t u : Tok} {h₀ : Heap} {L : Addr} {m : PySem.Str → Option Value} {news : List (Addr × Obj)} {n : Int} {Q : Value → Shared → Prop} (hF : Fr h₀ L s.heap m) (hN : News h₀ L s.heap news) (hn : n = b.size) (hz : b.size ≤ 64)
    (h : ∀ c h' t' k, c.size = b.size → Fr h₀ L h' m → News h₀ L h' news → Q (.bytes c t') { s with heap := h', toks := k })
    (hs : subscripted slice false (.bytes b t) (.ref s.heap.objs.size) = operate [.ref s.heap.objs.size, .bytes b t] (getItem (.bytes b t) (.ref s.heap.objs.size)) := by with_unfolding_all rfl)
    (ht : ∀ r, letTemporaryGo value (.bytes b t) r = pure () := by intro _; with_unfolding_all rfl) :
    wpAny (model prog w) A (subscriptTail value slice (.bytes b t) (.ref s.heap.objs.size)) Q E { s with heap := s.heap.push { cls := .type "slice", data := .fields #[.none, .int n u, .none] } } := by
  cases hb : b.isEmpty with
  | true =>
    have e : b = #[] := Array.isEmpty_iff.mp hb
    subst e
    have e2 : n = 0 := hn
    subst e2
    exact slice_N hF hN .none (.int 0 u) (by decide +kernel) (by decide +kernel) (fun h' t' k F' N' => h _ h' t' k (by decide +kernel) F' N') hs ht
  | false =>
    exact tail_of_ItemOn ⟨"bytes", _, FB.slot_bytes_getitem.lookup, typeIs_bytes _ _ _, getItem_meets (typeIs_bytes _ _ _) (by decide) FB.slot_bytes_getitem FB.entry_bytes_getitem (FB.args_bytes_getitem_2 _ _) (meets_whole b t _ hn hb)
      ⟨Heap.IsSliceOf.new _ _ _ _, h _ _ _ _ rfl (hF.push _) (News.pushKeep hN _)⟩⟩ hs ht
end
end
-- T17
section
theorem rowsT17x1 : True := by
  k_with_none
  k_with "data" => (repeat ((fail_if_success (refine Classical.byContradiction ?_)); rotate_left))
  k_with "callWith ref" => (k_here; k_dflt (refine' callWith_K (by with_reducible assumption) (by k_is) ?_ (by kernel_rfl!) (by kernel_rfl!); k_whole))
  k_with "callWith ref" => (k_here; (with_reducible show wpAny _ _ (callWith _ _ _ (backTo _ (starEach [] _)) []) _ _ _); (with_reducible rename Fr _ _ _ _ => kF); k_dflt (refine' callWith_K0 (Frag.In.keeps (by with_reducible assumption) (Fr.keep kF)) (by k_is) ?_; k_whole))
  k_with "call builtin:min" => (k_here; (with_reducible show wpAny _ _ (call (Value.builtin _) [Value.int _ _, Value.int _ _]) _ _ _); (with_unfolding_all refine' min2_K (by with_unfolding_all rfl) (by k_asm) (by k_asm) ?_; k_whole); (intro h' tk' r9 tr9 hr1 hr2 hr3 F' N'); (try k_sweep))
  k_with "call builtin:max" => (k_here; (with_reducible show wpAny _ _ (call (Value.builtin _) [Value.int _ _, Value.int _ _]) _ _ _); (with_unfolding_all refine' max2_K (by with_unfolding_all rfl) (by k_asm) (by k_asm) ?_; k_whole); (intro h' tk' r9 tr9 hr1 hr2 hr3 F' N'); (try k_sweep))
  k_with "call builtin:min" => (k_here; (with_reducible show wpAny _ _ (call (Value.builtin _) [Value.int _ _, Value.int _ _, Value.int _ _]) _ _ _); (with_unfolding_all refine' min3_K (by with_unfolding_all rfl) (by k_asm) (by k_asm) ?_; k_whole); (intro h' tk' r9 tr9 hr1 hr2 hr3 hr4 F' N'); (try k_sweep))
  exact True.intro
@[reducible] noncomputable def kup (k : Nat → Tok) (i : Nat) (t : Tok) : Nat → Tok := fun n => if n = i then t else k n
theorem keep_one {h h' : Heap} {a : Addr} {o : Obj} {l : List Addr} (h1 : h.get? a = some o) (h2 : h'.get? a = some o) (kb : KeepBut h h' (a :: l)) : KeepBut h h' l := fun c oc hc hn => by
  by_cases e : c = a
  · subst e
    rw [h1] at hc; rw [h2]; exact hc
  · exact kb c oc hc (fun hm => by
      rcases List.mem_cons.mp hm with rfl | hm
      · exact e rfl
      · exact hn hm)
theorem ne_cls {h₀ h : Heap} {L : Addr} {news : List (Addr × Obj)} (N : News h₀ L h news) {a b : Addr} {oa ob : Obj} (ha : (a, oa) ∈ news) (hb : (b, ob) ∈ news) (hc : oa.cls ≠ ob.cls) : @Ne Nat a b := fun e => by
  have h1 := (N _ ha).1
  have h2 := (N _ hb).1
  dsimp only at h1 h2
  rw [show a = b from e, h2] at h1
  exact hc (by cases h1; rfl)
theorem upd_in {l : Addr} {o : Obj} {news : List (Addr × Obj)} {g : Obj → List (Addr × Obj)} (U : UpdF l o news g) : (l, o) ∈ news := by
  obtain ⟨pre, post, rfl, _⟩ := U.split
  exact List.mem_append_right _ (.head _)
theorem inst_dict {i : Addr} {d : Addr} {es : List DictEntry} {n : Nat} : (instObj i d).cls ≠ (dictOf es n).cls := by intro h; cases h
theorem inst_inst {i j : Addr} {d e : Addr} (h : i ≠ j) : (instObj i d).cls ≠ (instObj j e).cls := by intro q; cases q; exact h rfl
set_option maxRecDepth 100000 in
set_option maxHeartbeats 8000000 in
theorem start_ok {w : World} {mean : ExcName → Option Value} {mg mb : Str → Option Value} (dp un : Nat) (gd : Option (List Code)) (cn : Str) (cs : Scope) (a : Addr) (ccd : Value) (cl : List (Str × Addr)) (outer : List Env) (A₀ : Around) (base h₀ : Heap) (L : Addr) (m : Str → Option Value) (s : Shared) (Q E : Value → Shared → Prop)
    (snd sd pe qu : Addr) (k : Nat → Tok) (fin : Bool)
    (B : Below A₀ base outer h₀) (F : Fr h₀ L s.heap m) (X : (Tr.pre.heap_1_39 w.params).In h₀) (N : News h₀ L s.heap [(snd, instObj 666 sd), (sd, oS w.params k pe qu 253 253 253 true fin)])
    (T : Top Tr.pre.view_1_40 (looseW Tr.pre.view_1_40 [Str.ofString "Sender", Str.ofString "Tcb"]) mean mg mb h₀) (hk : cs.kind = .function)
    (hdp : dp + 6 < recursionLimit) (d1 : @Ne Nat snd sd)
    (hret : ∀ (k' : Nat → Tok) (rv : Value) h' tk', KeepBut s.heap h' [snd, sd] → NewOr s.heap [snd, sd] [(snd, instObj 666 sd), (sd, oS w.params k' pe qu 253 254 254 true fin)] → Fr h₀ L h' m → News h₀ L h' [(snd, instObj 666 sd), (sd, oS w.params k' pe qu 253 254 254 true fin)] → Q rv { s with heap := h', toks := tk' }) :
    wpAny (model Challenge.rw_xw0347_01.row.prog w) (ktrTop dp un gd cn cs L a ccd cl outer) (call (.ref 585) [.ref snd]) Q E s := by
  revert X; k_fill; intro X
  refine wpAny_call ?_
  k_dflt (refine' code_defF ?k1 ?k2 ?k3 ?k4 ?k5 ?kA ?kF ?kK ?k6 ?k7 ?k8 ?k9 ?kB ?_ ?c2 ?c3 ?c4 ?c5; (case kA => exact rfl); (case kF => exact rfl); (case kK => assumption); (case k1 => k_asm); (case k2 => k_asm); (case k3 => k_asm); (case k4 => k_asm); (case k5 => k_asm); (case k6 => k_is); (case k7 => k_is); (case k8 => ktr_room); (case k9 => exact BindsTo.of_eq rfl); (case c5 => decide); (case kB => exact locs rfl); (case c2 => exact rfl); (case c3 => exact rfl); (case c4 => exact rfl); k_whole)
  intro g0 L0 h0 FG0 F0 N0 B0 X0 T0 hg
  (try dsimp only)
  (try k_fold)
  k_steps
  · refine' hret (kup (kup k 9 _) 11 _) _ _ _ ?f ?g ?d ?e; (case e => k_asm); (case d => k_asm); (case f => refine' (frame_end (g := g0) (L' := L0) (foot := []) ?fe1 ?fe2 (fun _ hq => nomatch hq) hg).1; (case fe1 => assumption); (case fe2 => assumption)); (case g => refine' (frame_end (g := g0) (L' := L0) ?fe1 ?fe2 ?fe3 hg).2; (case fe1 => assumption); (case fe2 => assumption); (case fe3 => exact fun _ hq => hq))
theorem startW {w : World} {mean : ExcName → Option Value} {mg mb : Str → Option Value} (dp un : Nat) (gd : Option (List Code)) (cn : Str) (cs : Scope) (a : Addr) (ccd : Value) (cl : List (Str × Addr)) (outer : List Env) (A₀ : Around) (base h₀ : Heap) (L : Addr) (m : Str → Option Value) (s : Shared) (Q E : Value → Shared → Prop)
    (snd sd pe qu : Addr) (k : Nat → Tok) (fin : Bool) (news : List (Addr × Obj)) (g : Obj → List (Addr × Obj))
    (B : Below A₀ base outer h₀) (F : Fr h₀ L s.heap m) (X : (Tr.pre.heap_1_39 w.params).In h₀) (N : News h₀ L s.heap news)
    (T : Top Tr.pre.view_1_40 (looseW Tr.pre.view_1_40 [Str.ofString "Sender", Str.ofString "Tcb"]) mean mg mb h₀) (hk : cs.kind = .function) (hdp : dp + 6 < recursionLimit) (m0 : (snd, instObj 666 sd) ∈ news) (U : UpdF sd (oS w.params k pe qu 253 253 253 true fin) news g) 
    (hret : ∀ (k' : Nat → Tok) (rv : Value) h' tk', Fr h₀ L h' m → News h₀ L h' (g (oS w.params k' pe qu 253 254 254 true fin)) → Q rv { s with heap := h', toks := tk' }) :
    wpAny (model Challenge.rw_xw0347_01.row.prog w) (ktrTop dp un gd cn cs L a ccd cl outer) (call (.ref 585) [.ref snd]) Q E s := by
  refine start_ok dp un gd cn cs a ccd cl outer A₀ base h₀ L m s Q E snd sd pe qu k fin B F X (fun p hp => by
    rcases List.mem_cons.mp hp with rfl | hp
    · exact N _ m0
    rcases List.mem_cons.mp hp with rfl | hp
    · exact N _ (upd_in U)
    exact nomatch hp) T hk hdp (ne_cls N m0 (upd_in U) inst_dict)  (fun k' rv h' tk' kb _ F' N' => ?_)
  skip
  refine hret k' rv h' tk' F' (upd_after N U (keep_one (N _ m0).1 (N' _ (.head _)).1 kb) (fun p hp => by rw [List.mem_singleton.mp hp]; exact N' _ (.tail _ (.head _))))
set_option maxRecDepth 100000 in
set_option maxHeartbeats 8000000 in
theorem tw1_ok {w : World} {mean : ExcName → Option Value} {mg mb : Str → Option Value} (dp un : Nat) (gd : Option (List Code)) (cn : Str) (cs : Scope) (a : Addr) (ccd : Value) (cl : List (Str × Addr)) (outer : List Env) (A₀ : Around) (base h₀ : Heap) (L : Addr) (m : Str → Option Value) (s : Shared) (Q E : Value → Shared → Prop)
    (snd sd pe qu pd : Addr) (k kP : Nat → Tok) (ui nx gr v : Int) (syn fin : Bool) (tq ta tv : Tok)
    (B : Below A₀ base outer h₀) (F : Fr h₀ L s.heap m) (X : (Tr.pre.heap_1_39 w.params).In h₀) (N : News h₀ L s.heap [(snd, instObj 666 sd), (sd, oS w.params k pe qu ui nx gr syn fin), (pe, instObj 475 pd), (pd, oPX w.params kP .none 0 0 0)])
    (T : Top Tr.pre.view_1_40 (looseW Tr.pre.view_1_40 [Str.ofString "Sender", Str.ofString "Tcb"]) mean mg mb h₀) (hk : cs.kind = .function)
    (hdp : dp + 6 < recursionLimit) (d1 : @Ne Nat snd pd) (d2 : @Ne Nat pe pd) (d3 : @Ne Nat sd pd) (hv : 0 ≤ v)
    (hret : ∀ (k' : Nat → Tok) (mx : Int) h' tk', mx = v → KeepBut s.heap h' [snd, sd, pe, pd] → NewOr s.heap [snd, sd, pe, pd] [(snd, instObj 666 sd), (sd, oS w.params k pe qu ui nx gr syn fin), (pe, instObj 475 pd), (pd, oPX w.params k' (.int 251 tq) 254 v mx)] → Fr h₀ L h' m → News h₀ L h' [(snd, instObj 666 sd), (sd, oS w.params k pe qu ui nx gr syn fin), (pe, instObj 475 pd), (pd, oPX w.params k' (.int 251 tq) 254 v mx)] → Q (.bool true) { s with heap := h', toks := tk' }) :
    wpAny (model Challenge.rw_xw0347_01.row.prog w) (ktrTop dp un gd cn cs L a ccd cl outer) (call (.ref 508) [.ref snd, .int 251 tq, .int 254 ta, .int v tv]) Q E s := by
  revert X; k_fill; intro X
  refine wpAny_call ?_
  k_dflt (refine' code_defF ?k1 ?k2 ?k3 ?k4 ?k5 ?kA ?kF ?kK ?k6 ?k7 ?k8 ?k9 ?kB ?_ ?c2 ?c3 ?c4 ?c5; (case kA => exact rfl); (case kF => exact rfl); (case kK => assumption); (case k1 => k_asm); (case k2 => k_asm); (case k3 => k_asm); (case k4 => k_asm); (case k5 => k_asm); (case k6 => k_is); (case k7 => k_is); (case k8 => ktr_room); (case k9 => exact BindsTo.of_eq rfl); (case c5 => decide); (case kB => exact locs rfl); (case c2 => exact rfl); (case c3 => exact rfl); (case c4 => exact rfl); k_whole)
  intro g0 L0 h0 FG0 F0 N0 B0 X0 T0 hg
  (try dsimp only)
  (try k_fold)
  k_steps
  · refine' hret (kup (kup (kup kP 20 _) 22 _) 26 _) _ _ _ ?eq ?f ?g ?d ?e; (case e => k_asm); (case d => k_asm); (case eq => omega); (case f => refine' (frame_end (g := g0) (L' := L0) (foot := []) ?fe1 ?fe2 (fun _ hq => nomatch hq) hg).1; (case fe1 => assumption); (case fe2 => assumption)); (case g => refine' (frame_end (g := g0) (L' := L0) ?fe1 ?fe2 ?fe3 hg).2; (case fe1 => assumption); (case fe2 => assumption); (case fe3 => exact fun _ hq => hq))
theorem tw1W {w : World} {mean : ExcName → Option Value} {mg mb : Str → Option Value} (dp un : Nat) (gd : Option (List Code)) (cn : Str) (cs : Scope) (a : Addr) (ccd : Value) (cl : List (Str × Addr)) (outer : List Env) (A₀ : Around) (base h₀ : Heap) (L : Addr) (m : Str → Option Value) (s : Shared) (Q E : Value → Shared → Prop)
    (snd sd pe qu pd : Addr) (k kP : Nat → Tok) (ui nx gr v : Int) (syn fin : Bool) (tq ta tv : Tok) (news : List (Addr × Obj)) (g : Obj → List (Addr × Obj))
    (B : Below A₀ base outer h₀) (F : Fr h₀ L s.heap m) (X : (Tr.pre.heap_1_39 w.params).In h₀) (N : News h₀ L s.heap news)
    (T : Top Tr.pre.view_1_40 (looseW Tr.pre.view_1_40 [Str.ofString "Sender", Str.ofString "Tcb"]) mean mg mb h₀) (hk : cs.kind = .function) (hdp : dp + 6 < recursionLimit) (m0 : (snd, instObj 666 sd) ∈ news) (m1 : (sd, oS w.params k pe qu ui nx gr syn fin) ∈ news) (m2 : (pe, instObj 475 pd) ∈ news) (U : UpdF pd (oPX w.params kP .none 0 0 0) news g) (d3 : @Ne Nat sd pd) (hv : 0 ≤ v)
    (hret : ∀ (k' : Nat → Tok) h' tk', Fr h₀ L h' m → News h₀ L h' (g (oPX w.params k' (.int 251 tq) 254 v v)) → Q (.bool true) { s with heap := h', toks := tk' }) :
    wpAny (model Challenge.rw_xw0347_01.row.prog w) (ktrTop dp un gd cn cs L a ccd cl outer) (call (.ref 508) [.ref snd, .int 251 tq, .int 254 ta, .int v tv]) Q E s := by
  refine tw1_ok dp un gd cn cs a ccd cl outer A₀ base h₀ L m s Q E snd sd pe qu pd k kP ui nx gr v syn fin tq ta tv B F X (fun p hp => by
    rcases List.mem_cons.mp hp with rfl | hp
    · exact N _ m0
    rcases List.mem_cons.mp hp with rfl | hp
    · exact N _ m1
    rcases List.mem_cons.mp hp with rfl | hp
    · exact N _ m2
    rcases List.mem_cons.mp hp with rfl | hp
    · exact N _ (upd_in U)
    exact nomatch hp) T hk hdp (ne_cls N m0 (upd_in U) inst_dict) (ne_cls N m2 (upd_in U) inst_dict) d3 hv (fun k' mx h' tk' e9 kb _ F' N' => ?_)
  subst e9
  refine hret k' h' tk' F' (upd_after N U (keep_one (N _ m2).1 (N' _ (.tail _ (.tail _ (.head _)))).1 (keep_one (N _ m1).1 (N' _ (.tail _ (.head _))).1 (keep_one (N _ m0).1 (N' _ (.head _)).1 kb))) (fun p hp => by rw [List.mem_singleton.mp hp]; exact N' _ (.tail _ (.tail _ (.tail _ (.head _))))))
set_option maxRecDepth 100000 in
set_option maxHeartbeats 8000000 in
theorem tw2_ok {w : World} {mean : ExcName → Option Value} {mg mb : Str → Option Value} (dp un : Nat) (gd : Option (List Code)) (cn : Str) (cs : Scope) (a : Addr) (ccd : Value) (cl : List (Str × Addr)) (outer : List Env) (A₀ : Around) (base h₀ : Heap) (L : Addr) (m : Str → Option Value) (s : Shared) (Q E : Value → Shared → Prop)
    (snd sd pe qu pd : Addr) (k kP : Nat → Tok) (ui nx gr v w0 : Int) (syn fin : Bool) (tq ta tv u : Tok)
    (B : Below A₀ base outer h₀) (F : Fr h₀ L s.heap m) (X : (Tr.pre.heap_1_39 w.params).In h₀) (N : News h₀ L s.heap [(snd, instObj 666 sd), (sd, oS w.params k pe qu ui nx gr syn fin), (pe, instObj 475 pd), (pd, oPX w.params kP (.int 251 u) 254 w0 w0)])
    (T : Top Tr.pre.view_1_40 (looseW Tr.pre.view_1_40 [Str.ofString "Sender", Str.ofString "Tcb"]) mean mg mb h₀) (hk : cs.kind = .function)
    (hdp : dp + 6 < recursionLimit) (d1 : @Ne Nat snd pd) (d2 : @Ne Nat pe pd) (d3 : @Ne Nat sd pd) (hv : 0 ≤ v) (hvw : v ≤ w0)
    (hret : ∀ (k' : Nat → Tok) (mx : Int) h' tk', mx = w0 → KeepBut s.heap h' [snd, sd, pe, pd] → NewOr s.heap [snd, sd, pe, pd] [(snd, instObj 666 sd), (sd, oS w.params k pe qu ui nx gr syn fin), (pe, instObj 475 pd), (pd, oPX w.params k' (.int 252 tq) 254 v mx)] → Fr h₀ L h' m → News h₀ L h' [(snd, instObj 666 sd), (sd, oS w.params k pe qu ui nx gr syn fin), (pe, instObj 475 pd), (pd, oPX w.params k' (.int 252 tq) 254 v mx)] → Q (.bool true) { s with heap := h', toks := tk' }) :
    wpAny (model Challenge.rw_xw0347_01.row.prog w) (ktrTop dp un gd cn cs L a ccd cl outer) (call (.ref 508) [.ref snd, .int 252 tq, .int 254 ta, .int v tv]) Q E s := by
  revert X; k_fill; intro X
  refine wpAny_call ?_
  k_dflt (refine' code_defF ?k1 ?k2 ?k3 ?k4 ?k5 ?kA ?kF ?kK ?k6 ?k7 ?k8 ?k9 ?kB ?_ ?c2 ?c3 ?c4 ?c5; (case kA => exact rfl); (case kF => exact rfl); (case kK => assumption); (case k1 => k_asm); (case k2 => k_asm); (case k3 => k_asm); (case k4 => k_asm); (case k5 => k_asm); (case k6 => k_is); (case k7 => k_is); (case k8 => ktr_room); (case k9 => exact BindsTo.of_eq rfl); (case c5 => decide); (case kB => exact locs rfl); (case c2 => exact rfl); (case c3 => exact rfl); (case c4 => exact rfl); k_whole)
  intro g0 L0 h0 FG0 F0 N0 B0 X0 T0 hg
  (try dsimp only)
  (try k_fold)
  k_steps
  · refine' hret (kup (kup (kup kP 20 _) 22 _) 26 _) _ _ _ ?eq ?f ?g ?d ?e; (case e => k_asm); (case d => k_asm); (case eq => omega); (case f => refine' (frame_end (g := g0) (L' := L0) (foot := []) ?fe1 ?fe2 (fun _ hq => nomatch hq) hg).1; (case fe1 => assumption); (case fe2 => assumption)); (case g => refine' (frame_end (g := g0) (L' := L0) ?fe1 ?fe2 ?fe3 hg).2; (case fe1 => assumption); (case fe2 => assumption); (case fe3 => exact fun _ hq => hq))
theorem tw2W {w : World} {mean : ExcName → Option Value} {mg mb : Str → Option Value} (dp un : Nat) (gd : Option (List Code)) (cn : Str) (cs : Scope) (a : Addr) (ccd : Value) (cl : List (Str × Addr)) (outer : List Env) (A₀ : Around) (base h₀ : Heap) (L : Addr) (m : Str → Option Value) (s : Shared) (Q E : Value → Shared → Prop)
    (snd sd pe qu pd : Addr) (k kP : Nat → Tok) (ui nx gr v w0 : Int) (syn fin : Bool) (tq ta tv u : Tok) (news : List (Addr × Obj)) (g : Obj → List (Addr × Obj))
    (B : Below A₀ base outer h₀) (F : Fr h₀ L s.heap m) (X : (Tr.pre.heap_1_39 w.params).In h₀) (N : News h₀ L s.heap news)
    (T : Top Tr.pre.view_1_40 (looseW Tr.pre.view_1_40 [Str.ofString "Sender", Str.ofString "Tcb"]) mean mg mb h₀) (hk : cs.kind = .function) (hdp : dp + 6 < recursionLimit) (m0 : (snd, instObj 666 sd) ∈ news) (m1 : (sd, oS w.params k pe qu ui nx gr syn fin) ∈ news) (m2 : (pe, instObj 475 pd) ∈ news) (U : UpdF pd (oPX w.params kP (.int 251 u) 254 w0 w0) news g) (d3 : @Ne Nat sd pd) (hv : 0 ≤ v) (hvw : v ≤ w0)
    (hret : ∀ (k' : Nat → Tok) h' tk', Fr h₀ L h' m → News h₀ L h' (g (oPX w.params k' (.int 252 tq) 254 v w0)) → Q (.bool true) { s with heap := h', toks := tk' }) :
    wpAny (model Challenge.rw_xw0347_01.row.prog w) (ktrTop dp un gd cn cs L a ccd cl outer) (call (.ref 508) [.ref snd, .int 252 tq, .int 254 ta, .int v tv]) Q E s := by
  refine tw2_ok dp un gd cn cs a ccd cl outer A₀ base h₀ L m s Q E snd sd pe qu pd k kP ui nx gr v w0 syn fin tq ta tv u B F X (fun p hp => by
    rcases List.mem_cons.mp hp with rfl | hp
    · exact N _ m0
    rcases List.mem_cons.mp hp with rfl | hp
    · exact N _ m1
    rcases List.mem_cons.mp hp with rfl | hp
    · exact N _ m2
    rcases List.mem_cons.mp hp with rfl | hp
    · exact N _ (upd_in U)
    exact nomatch hp) T hk hdp (ne_cls N m0 (upd_in U) inst_dict) (ne_cls N m2 (upd_in U) inst_dict) d3 hv hvw (fun k' mx h' tk' e9 kb _ F' N' => ?_)
  subst e9
  refine hret k' h' tk' F' (upd_after N U (keep_one (N _ m2).1 (N' _ (.tail _ (.tail _ (.head _)))).1 (keep_one (N _ m1).1 (N' _ (.tail _ (.head _))).1 (keep_one (N _ m0).1 (N' _ (.head _)).1 kb))) (fun p hp => by rw [List.mem_singleton.mp hp]; exact N' _ (.tail _ (.tail _ (.tail _ (.head _))))))
set_option maxRecDepth 100000 in
set_option maxHeartbeats 8000000 in
theorem back_ok {w : World} {mean : ExcName → Option Value} {mg mb : Str → Option Value} (dp un : Nat) (gd : Option (List Code)) (cn : Str) (cs : Scope) (a : Addr) (ccd : Value) (cl : List (Str × Addr)) (outer : List Env) (A₀ : Around) (base h₀ : Heap) (L : Addr) (m : Str → Option Value) (s : Shared) (Q E : Value → Shared → Prop)
    (clk cd est : Addr) (k : Nat → Tok) (tries : Int)
    (B : Below A₀ base outer h₀) (F : Fr h₀ L s.heap m) (X : (Tr.pre.heap_1_39 w.params).In h₀) (N : News h₀ L s.heap [(clk, instObj 277 cd), (cd, oC w.params k est tries)])
    (T : Top Tr.pre.view_1_40 (looseW Tr.pre.view_1_40 [Str.ofString "Sender", Str.ofString "Tcb"]) mean mg mb h₀) (hk : cs.kind = .function)
    (hdp : dp + 4 < recursionLimit) (d1 : @Ne Nat clk cd) (h0 : 0 ≤ tries) (h1 : tries ≤ 8)
    (hret : ∀ (k' : Nat → Tok) (b9 : Bool) h' tk', KeepBut s.heap h' [clk, cd] → NewOr s.heap [clk, cd] [(clk, instObj 277 cd), (cd, oC w.params k' est (tries + 1))] → Fr h₀ L h' m → News h₀ L h' [(clk, instObj 277 cd), (cd, oC w.params k' est (tries + 1))] → Q (.bool b9) { s with heap := h', toks := tk' }) :
    wpAny (model Challenge.rw_xw0347_01.row.prog w) (ktrTop dp un gd cn cs L a ccd cl outer) (call (.ref 253) [.ref clk]) Q E s := by
  revert X; k_fill; intro X
  refine wpAny_call ?_
  k_dflt (refine' code_defF ?k1 ?k2 ?k3 ?k4 ?k5 ?kA ?kF ?kK ?k6 ?k7 ?k8 ?k9 ?kB ?_ ?c2 ?c3 ?c4 ?c5; (case kA => exact rfl); (case kF => exact rfl); (case kK => assumption); (case k1 => k_asm); (case k2 => k_asm); (case k3 => k_asm); (case k4 => k_asm); (case k5 => k_asm); (case k6 => k_is); (case k7 => k_is); (case k8 => ktr_room); (case k9 => exact BindsTo.of_eq rfl); (case c5 => decide); (case kB => exact locs rfl); (case c2 => exact rfl); (case c3 => exact rfl); (case c4 => exact rfl); k_whole)
  intro g0 L0 h0 FG0 F0 N0 B0 X0 T0 hg
  (try dsimp only)
  (try k_fold)
  k_steps
  · refine' hret (kup k 35 _) _ _ _ ?f ?g ?d ?e; (case e => k_asm); (case d => k_asm); (case f => refine' (frame_end (g := g0) (L' := L0) (foot := []) ?fe1 ?fe2 (fun _ hq => nomatch hq) hg).1; (case fe1 => assumption); (case fe2 => assumption)); (case g => refine' (frame_end (g := g0) (L' := L0) ?fe1 ?fe2 ?fe3 hg).2; (case fe1 => assumption); (case fe2 => assumption); (case fe3 => exact fun _ hq => hq))
theorem backW {w : World} {mean : ExcName → Option Value} {mg mb : Str → Option Value} (dp un : Nat) (gd : Option (List Code)) (cn : Str) (cs : Scope) (a : Addr) (ccd : Value) (cl : List (Str × Addr)) (outer : List Env) (A₀ : Around) (base h₀ : Heap) (L : Addr) (m : Str → Option Value) (s : Shared) (Q E : Value → Shared → Prop)
    (clk cd est : Addr) (k : Nat → Tok) (tries : Int) (news : List (Addr × Obj)) (g : Obj → List (Addr × Obj))
    (B : Below A₀ base outer h₀) (F : Fr h₀ L s.heap m) (X : (Tr.pre.heap_1_39 w.params).In h₀) (N : News h₀ L s.heap news)
    (T : Top Tr.pre.view_1_40 (looseW Tr.pre.view_1_40 [Str.ofString "Sender", Str.ofString "Tcb"]) mean mg mb h₀) (hk : cs.kind = .function) (hdp : dp + 4 < recursionLimit) (m0 : (clk, instObj 277 cd) ∈ news) (U : UpdF cd (oC w.params k est tries) news g) (h0 : 0 ≤ tries) (h1 : tries ≤ 8)
    (hret : ∀ (k' : Nat → Tok) (b9 : Bool) h' tk', Fr h₀ L h' m → News h₀ L h' (g (oC w.params k' est (tries + 1))) → Q (.bool b9) { s with heap := h', toks := tk' }) :
    wpAny (model Challenge.rw_xw0347_01.row.prog w) (ktrTop dp un gd cn cs L a ccd cl outer) (call (.ref 253) [.ref clk]) Q E s := by
  refine back_ok dp un gd cn cs a ccd cl outer A₀ base h₀ L m s Q E clk cd est k tries B F X (fun p hp => by
    rcases List.mem_cons.mp hp with rfl | hp
    · exact N _ m0
    rcases List.mem_cons.mp hp with rfl | hp
    · exact N _ (upd_in U)
    exact nomatch hp) T hk hdp (ne_cls N m0 (upd_in U) inst_dict) h0 h1 (fun k' b9 h' tk' kb _ F' N' => ?_)
  skip
  refine hret k' b9 h' tk' F' (upd_after N U (keep_one (N _ m0).1 (N' _ (.head _)).1 kb) (fun p hp => by rw [List.mem_singleton.mp hp]; exact N' _ (.tail _ (.head _))))
end
-- T15a
section
theorem norowsT15a : True := by
  k_with_none
  exact True.intro
noncomputable def kkk (kS kP kQ kC kE kT kW : Nat → Tok) : Nat → Tok := fun n => if n < 17 then kS n else if n < 27 then kP n else if n < 31 then kQ n else if n < 39 then kC n else if n < 51 then kE n else if n < 66 then kT n else kW n
section
variable {P : Params} {kS kP kQ kC kE kT kW : Nat → Tok}
theorem oS_kk {pe qu : Addr} {ui nx gr : Int} {syn fin : Bool} : oS P (kkk kS kP kQ kC kE kT kW) pe qu ui nx gr syn fin = oS P kS pe qu ui nx gr syn fin := rfl
theorem oP_kk {tq : Tok} {win mo : Int} : oP P (kkk kS (kup kP 24 tq) kQ kC kE kT kW) win mo = oPX P kP (.int 252 tq) 254 win mo := rfl
theorem oQ_kk {bs : Array UInt8} : oQ P (kkk kS kP kQ kC kE kT kW) bs = oQ P kQ bs := rfl
theorem oC_kk {est : Addr} {tries : Int} : oC P (kkk kS kP kQ kC kE kT kW) est tries = oC P kC est tries := rfl
theorem oE_kk : oE P (kkk kS kP kQ kC kE kT kW) = oE P kE := rfl
theorem oT_kk {li lo re snd rc clk cg ak whl : Addr} {st : Str} {ts tp : Tok} {pr : Int} : oT P (kkk kS kP kQ kC kE kT kW) li lo re snd rc clk cg ak whl st ts pr tp = oT P kT li lo re snd rc clk cg ak whl st ts pr tp := rfl
theorem oW_kk {sl lt en : Addr} {gv : Int} {tg : Tok} : oW P (kkk kS kP kQ kC kE kT kW) sl lt en gv tg = oW P kW sl lt en gv tg := rfl
end
theorem cls_d {es : List DictEntry} {n : Nat} : (dictOf es n).cls ≠ .type "list" := by intro q; injection q with q; exact absurd q (by decide)
theorem cls_i {i d : Addr} : (instObj i d).cls ≠ .type "list" := by intro q; cases q
theorem fa_cons {α : Type} {P : α → Prop} {a : α} {l : List α} (h1 : P a) (h2 : ∀ p, p ∈ l → P p) : ∀ p, p ∈ a :: l → P p := List.forall_mem_cons.mpr ⟨h1, h2⟩
theorem end_news {h₀ h : Heap} {L li lo re rc cg ak : Addr} {st : Str} {ts tp tq : Tok} {w : World} {whl wd sl lt en clk cd est ed qu qd pe pd snd sd tcb td : Addr} {kS kP kQ kC kE kT kW : Nat → Tok} {ui nx gr win mo tries : Int} {syn fin : Bool} {bs : Array UInt8} {tg : Tok} {news nw prv : List (Addr × Obj)} (N : News h₀ L h ((clk, instObj 277 cd) :: (cd, oC w.params kC est tries) :: (est, instObj 333 ed) :: (ed, oE w.params kE) :: (qu, instObj 433 qd) :: (qd, oQ w.params kQ bs) :: (pe, instObj 475 pd) :: (pd, oPX w.params kP (.int 252 tq) 254 win mo) :: (snd, instObj 666 sd) :: (sd, oS w.params kS pe qu ui nx gr syn fin) :: (tcb, instObj 804 td) :: (td, oT w.params kT li lo re snd rc clk cg ak whl st ts 0 tp) :: prv)) (sub1 : ∀ p ∈ nw ++ news, p ∈ prv) :
    News h₀ L h (news ++ (tcb, instObj 804 td) :: (td, oT w.params (kkk kS (kup kP 24 tq) kQ kC kE kT kW) li lo re snd rc clk cg ak whl st ts 0 tp) :: (kpL w.params (kkk kS (kup kP 24 tq) kQ kC kE kT kW) snd sd pe qu ui nx gr syn fin pd win mo qd bs clk cd est tries ed ++ nw)) := fun p hp => by
  replace hp := List.mem_append.mp hp; rcases hp with hp | hp
  · exact N p (.tail _ (.tail _ (.tail _ (.tail _ (.tail _ (.tail _ (.tail _ (.tail _ (.tail _ (.tail _ (.tail _ (.tail _ (sub1 p (List.mem_append_right _ hp))))))))))))))
  revert hp; revert p; refine fa_cons ?_ (fa_cons ?_ ?_)
  · exact N _ (.tail _ (.tail _ (.tail _ (.tail _ (.tail _ (.tail _ (.tail _ (.tail _ (.tail _ (.tail _ (.head _)))))))))))
  · rw [oT_kk]; exact N _ (.tail _ (.tail _ (.tail _ (.tail _ (.tail _ (.tail _ (.tail _ (.tail _ (.tail _ (.tail _ (.tail _ (.head _))))))))))))
  intro p hp
  replace hp := List.mem_append.mp hp; rcases hp with hp | hp
  · revert hp; unfold kpL; revert p
    refine fa_cons ?_ ?_
    · exact N _ (.tail _ (.tail _ (.tail _ (.tail _ (.tail _ (.tail _ (.tail _ (.tail _ (.head _)))))))))
    refine fa_cons ?_ ?_
    · rw [oS_kk]; exact N _ (.tail _ (.tail _ (.tail _ (.tail _ (.tail _ (.tail _ (.tail _ (.tail _ (.tail _ (.head _))))))))))
    refine fa_cons ?_ ?_
    · exact N _ (.tail _ (.tail _ (.tail _ (.tail _ (.tail _ (.tail _ (.head _)))))))
    refine fa_cons ?_ ?_
    · rw [oP_kk]; exact N _ (.tail _ (.tail _ (.tail _ (.tail _ (.tail _ (.tail _ (.tail _ (.head _))))))))
    refine fa_cons ?_ ?_
    · exact N _ (.tail _ (.tail _ (.tail _ (.tail _ (.head _)))))
    refine fa_cons ?_ ?_
    · rw [oQ_kk]; exact N _ (.tail _ (.tail _ (.tail _ (.tail _ (.tail _ (.head _))))))
    refine fa_cons ?_ ?_
    · exact N _ (.head _)
    refine fa_cons ?_ ?_
    · rw [oC_kk]; exact N _ (.tail _ (.head _))
    refine fa_cons ?_ ?_
    · exact N _ (.tail _ (.tail _ (.head _)))
    refine fa_cons ?_ ?_
    · rw [oE_kk]; exact N _ (.tail _ (.tail _ (.tail _ (.head _))))
    exact fun _ h => nomatch h
  · exact N p (.tail _ (.tail _ (.tail _ (.tail _ (.tail _ (.tail _ (.tail _ (.tail _ (.tail _ (.tail _ (.tail _ (.tail _ (sub1 p (List.mem_append_left _ hp))))))))))))))
theorem end_facts {w : World} {whl wd sl lt en clk cd est ed qu qd pe pd snd sd tcb td : Addr} {kS kP kQ kC kE kT kW : Nat → Tok} {ui nx gr win mo tries : Int} {syn fin : Bool} {bs : Array UInt8} {tg : Tok} {news nw prv : List (Addr × Obj)} (m0 : (whl, instObj 740 wd) ∈ nw) (m1 : (wd, oW w.params kW sl lt en 0 tg) ∈ nw) (W : WI w whl wd sl lt en (fun _ => none) 0 [] nw) (in2 : ∀ q ∈ nw, ∀ p ∈ news, p.1 ≠ q.1) (O1 : OwnOff prv [clk, cd, est, ed, qu, qd, pe, pd, snd, sd, tcb, td]) (sub1 : ∀ p ∈ nw ++ news, p ∈ prv) (lo : ∀ p ∈ news, p.1 < td) (c0 : @LT.lt Nat _ td tcb) (c1 : @LT.lt Nat _ tcb sd) (c2 : @LT.lt Nat _ sd snd) (c3 : @LT.lt Nat _ snd pd) (c4 : @LT.lt Nat _ pd pe) (c5 : @LT.lt Nat _ pe qd) (c6 : @LT.lt Nat _ qd qu) (c7 : @LT.lt Nat _ qu ed) (c8 : @LT.lt Nat _ ed est) (c9 : @LT.lt Nat _ est cd) (c10 : @LT.lt Nat _ cd clk) :
    (whl, instObj 740 wd) ∈ kpL w.params (kkk kS kP kQ kC kE kT kW) snd sd pe qu ui nx gr syn fin pd win mo qd bs clk cd est tries ed ++ nw ∧ (wd, oW w.params (kkk kS kP kQ kC kE kT kW) sl lt en 0 tg) ∈ kpL w.params (kkk kS kP kQ kC kE kT kW) snd sd pe qu ui nx gr syn fin pd win mo qd bs clk cd est tries ed ++ nw ∧ WI w whl wd sl lt en (fun _ => none) 0 (kpL w.params (kkk kS kP kQ kC kE kT kW) snd sd pe qu ui nx gr syn fin pd win mo qd bs clk cd est tries ed) (kpL w.params (kkk kS kP kQ kC kE kT kW) snd sd pe qu ui nx gr syn fin pd win mo qd bs clk cd est tries ed ++ nw) ∧ OwnOff (kpL w.params (kkk kS kP kQ kC kE kT kW) snd sd pe qu ui nx gr syn fin pd win mo qd bs clk cd est tries ed ++ nw) [tcb, td] ∧ OwnOff (kpL w.params (kkk kS kP kQ kC kE kT kW) snd sd pe qu ui nx gr syn fin pd win mo qd bs clk cd est tries ed ++ nw) (news.map (·.1)) := by
  have insub : ∀ p ∈ nw, p ∈ prv := fun p hp => sub1 p (List.mem_append_left _ hp)
  have G := W.grow (prv' := kpL w.params (kkk kS kP kQ kC kE kT kW) snd sd pe qu ui nx gr syn fin pd win mo qd bs clk cd est tries ed ++ nw) (fun p hp => List.mem_append_right _ hp)
  obtain ⟨oe, kvs, he, _⟩ := W.ents
  have nwd : ∀ b ∈ [clk, cd, est, ed, qu, qd, pe, pd, snd, sd, tcb, td], @Ne Nat b wd := fun b hb e => O1 _ (insub _ m1) b hb e.symm
  have nen : ∀ b ∈ [clk, cd, est, ed, qu, qd, pe, pd, snd, sd, tcb, td], @Ne Nat b en := fun b hb e => O1 _ (insub _ he) b hb e.symm
  refine ⟨List.mem_append_right _ m0, List.mem_append_right _ (by rw [oW_kk]; exact m1), ⟨fun p hp => ⟨List.mem_append_left _ hp, ?_⟩, G.sls, G.lat, G.ents⟩, fun p hp b hb => ?_, fun p hp b hb => ?_⟩
  · revert hp; unfold kpL; revert p
    refine fa_cons ?_ ?_
    · exact ⟨cls_i, nwd _ (.tail _ (.tail _ (.tail _ (.tail _ (.tail _ (.tail _ (.tail _ (.tail _ (.head _))))))))), nen _ (.tail _ (.tail _ (.tail _ (.tail _ (.tail _ (.tail _ (.tail _ (.tail _ (.head _)))))))))⟩
    refine fa_cons ?_ ?_
    · exact ⟨cls_d, nwd _ (.tail _ (.tail _ (.tail _ (.tail _ (.tail _ (.tail _ (.tail _ (.tail _ (.tail _ (.head _)))))))))), nen _ (.tail _ (.tail _ (.tail _ (.tail _ (.tail _ (.tail _ (.tail _ (.tail _ (.tail _ (.head _))))))))))⟩
    refine fa_cons ?_ ?_
    · exact ⟨cls_i, nwd _ (.tail _ (.tail _ (.tail _ (.tail _ (.tail _ (.tail _ (.head _))))))), nen _ (.tail _ (.tail _ (.tail _ (.tail _ (.tail _ (.tail _ (.head _)))))))⟩
    refine fa_cons ?_ ?_
    · exact ⟨cls_d, nwd _ (.tail _ (.tail _ (.tail _ (.tail _ (.tail _ (.tail _ (.tail _ (.head _)))))))), nen _ (.tail _ (.tail _ (.tail _ (.tail _ (.tail _ (.tail _ (.tail _ (.head _))))))))⟩
    refine fa_cons ?_ ?_
    · exact ⟨cls_i, nwd _ (.tail _ (.tail _ (.tail _ (.tail _ (.head _))))), nen _ (.tail _ (.tail _ (.tail _ (.tail _ (.head _)))))⟩
    refine fa_cons ?_ ?_
    · exact ⟨cls_d, nwd _ (.tail _ (.tail _ (.tail _ (.tail _ (.tail _ (.head _)))))), nen _ (.tail _ (.tail _ (.tail _ (.tail _ (.tail _ (.head _))))))⟩
    refine fa_cons ?_ ?_
    · exact ⟨cls_i, nwd _ (.head _), nen _ (.head _)⟩
    refine fa_cons ?_ ?_
    · exact ⟨cls_d, nwd _ (.tail _ (.head _)), nen _ (.tail _ (.head _))⟩
    refine fa_cons ?_ ?_
    · exact ⟨cls_i, nwd _ (.tail _ (.tail _ (.head _))), nen _ (.tail _ (.tail _ (.head _)))⟩
    refine fa_cons ?_ ?_
    · exact ⟨cls_d, nwd _ (.tail _ (.tail _ (.tail _ (.head _)))), nen _ (.tail _ (.tail _ (.tail _ (.head _))))⟩
    exact fun _ h => nomatch h
  · replace hp := List.mem_append.mp hp; rcases hp with hp | hp
    · have hb : @Eq Nat b tcb ∨ @Eq Nat b td := by
        rcases List.mem_cons.mp hb with rfl | hb
        · exact .inl rfl
        · exact .inr (List.mem_singleton.mp hb)
      revert hp; unfold kpL; revert p
      refine fa_cons ?_ ?_
      · intro (e : @Eq Nat snd b); omega
      refine fa_cons ?_ ?_
      · intro (e : @Eq Nat sd b); omega
      refine fa_cons ?_ ?_
      · intro (e : @Eq Nat pe b); omega
      refine fa_cons ?_ ?_
      · intro (e : @Eq Nat pd b); omega
      refine fa_cons ?_ ?_
      · intro (e : @Eq Nat qu b); omega
      refine fa_cons ?_ ?_
      · intro (e : @Eq Nat qd b); omega
      refine fa_cons ?_ ?_
      · intro (e : @Eq Nat clk b); omega
      refine fa_cons ?_ ?_
      · intro (e : @Eq Nat cd b); omega
      refine fa_cons ?_ ?_
      · intro (e : @Eq Nat est b); omega
      refine fa_cons ?_ ?_
      · intro (e : @Eq Nat ed b); omega
      exact fun _ h => nomatch h
    · rcases List.mem_cons.mp hb with rfl | hb
      · exact O1 p (insub p hp) _ (.tail _ (.tail _ (.tail _ (.tail _ (.tail _ (.tail _ (.tail _ (.tail _ (.tail _ (.tail _ (.head _)))))))))))
      · rw [List.mem_singleton.mp hb]; exact O1 p (insub p hp) _ (.tail _ (.tail _ (.tail _ (.tail _ (.tail _ (.tail _ (.tail _ (.tail _ (.tail _ (.tail _ (.tail _ (.head _))))))))))))
  · obtain ⟨q, hq, rfl⟩ := List.mem_map.mp hb
    have hlo : @LT.lt Nat _ q.1 td := lo q hq
    replace hp := List.mem_append.mp hp; rcases hp with hp | hp
    · revert hp; unfold kpL; revert p
      refine fa_cons ?_ ?_
      · intro (e : @Eq Nat snd q.1); omega
      refine fa_cons ?_ ?_
      · intro (e : @Eq Nat sd q.1); omega
      refine fa_cons ?_ ?_
      · intro (e : @Eq Nat pe q.1); omega
      refine fa_cons ?_ ?_
      · intro (e : @Eq Nat pd q.1); omega
      refine fa_cons ?_ ?_
      · intro (e : @Eq Nat qu q.1); omega
      refine fa_cons ?_ ?_
      · intro (e : @Eq Nat qd q.1); omega
      refine fa_cons ?_ ?_
      · intro (e : @Eq Nat clk q.1); omega
      refine fa_cons ?_ ?_
      · intro (e : @Eq Nat cd q.1); omega
      refine fa_cons ?_ ?_
      · intro (e : @Eq Nat est q.1); omega
      refine fa_cons ?_ ?_
      · intro (e : @Eq Nat ed q.1); omega
      exact fun _ h => nomatch h
    · exact fun e => in2 p hp q hq e.symm
end
-- T15
section
theorem rowsT15x1 : True := by
  k_with_none
  k_with "data" => (repeat ((fail_if_success (refine Classical.byContradiction ?_)); rotate_left))
  k_with "callWith ref" => (k_here; k_dflt (refine' callWith_K (by with_reducible assumption) (by k_is) ?_; k_whole))
  k_with "callWith ref" => (k_here; (with_reducible show wpAny _ _ (callWith _ _ _ (backTo _ (starEach [] _)) []) _ _ _); (with_reducible rename Fr _ _ _ _ => kF); k_dflt (refine' callWith_K0 (Frag.In.keeps (by with_reducible assumption) (Fr.keep kF)) (by k_is) ?_; k_whole))
  exact True.intro
theorem execsF_mid {M : Model} {A : Around} {E : Value → Shared → Prop} {s : Shared} {env : Env} {st : Stmt} {rest : List Stmt} {Q : Flow → Shared → Prop} {g h : Heap} {L : Addr} {m : Str → Option Value} (_F : Fr g L h m) (Mid : (Str → Option Value) → Shared → Prop) (hc : wpAny M A (exec st env) (fun f s' => StopF f (Mid m s')) E s) (hk : ∀ s', Mid m s' → wpF M A (execs rest env) Q E s') : wpF M A (execs (st :: rest) env) Q E s :=
  execsF_cons (wpF_of (wpAny_mono hc (fun f s' h' => by obtain ⟨rfl, h'⟩ := h'; exact hk s' h') fun _ _ x => x))
theorem execsF_midP {M : Model} {A : Around} {E : Value → Shared → Prop} {s : Shared} {env : Env} {st : Stmt} {rest : List Stmt} {Q : Flow → Shared → Prop} {g h : Heap} {L : Addr} {m : Str → Option Value} (F : Fr g L h m) (Mid : (Str → Option Value) → Shared → Prop) (hc : ∀ P : Shared → Prop, (∀ s', Mid m s' → P s') → wpAny M A (exec st env) (fun f s' => StopF f (P s')) E s) (hk : ∀ s', Mid m s' → wpF M A (execs rest env) Q E s') : wpF M A (execs (st :: rest) env) Q E s :=
  execsF_mid F Mid (hc _ (fun _ x => x)) hk
section
variable {prog : Program} {w : World} {A : Around} {E : Value → Shared → Prop} {s : Shared}
theorem bytes_int' {i : Int} {t : Tok} {Q : Value → Shared → Prop} (h0 : 0 ≤ i) (h1 : i ≤ 64) (hQ : ∀ bs t tk, (bs.size : Int) = i → Q (.bytes bs t) { s with toks := tk }) : wpAny (model prog w) A (call (.type "bytes") [.int i t]) Q E s :=
  call_bytes_int h0 h1 fun t tk => hQ _ t tk (by rw [Array.size_replicate]; omega)
theorem add_b' {c : Array UInt8} {t u : Tok} {Q : Value → Shared → Prop} (hz : c.size ≤ 64) (h : ∀ d t' k, d.size = c.size → Q (.bytes d t') { s with toks := k }) : wpAny (model prog w) A (binaryOp .Add (.bytes #[] t) (.bytes c u)) Q E s :=
  KBy.add_bytes (by show 0 + c.size ≤ _; omega) fun t' k => h _ t' k (by rw [Array.size_append]; exact Nat.zero_add _)
end
theorem sub4 {nw prv news : List (Addr × Obj)} {a b c d : Addr × Obj} (h : prv = nw ++ a :: b :: c :: d :: news) : ∀ p ∈ nw ++ news, p ∈ prv := fun p hp => by
  rw [h]
  rcases List.mem_append.mp hp with hp | hp
  · exact List.mem_append_left _ hp
  · exact List.mem_append_right _ (.tail _ (.tail _ (.tail _ (.tail _ hp))))
theorem lo4 {td : Addr} {news : List (Addr × Obj)} {a b c d : Addr × Obj} (h : ∀ p ∈ a :: b :: c :: d :: news, p.1 < td) : ∀ p ∈ news, p.1 < td := fun p hp => h p (.tail _ (.tail _ (.tail _ (.tail _ hp))))
theorem in4 {nw news : List (Addr × Obj)} {a b c d : Addr × Obj} (h : ∀ q ∈ nw, ∀ p ∈ a :: b :: c :: d :: news, p.1 ≠ q.1) : ∀ q ∈ nw, ∀ p ∈ news, p.1 ≠ q.1 := fun q hq p hp => h q hq p (.tail _ (.tail _ (.tail _ (.tail _ hp))))
theorem mem_sub9 {nw prv news : List (Addr × Obj)} {p : Addr × Obj} (hs : ∀ p ∈ nw ++ news, p ∈ prv) (h : p ∈ news) : p ∈ prv := hs p (List.mem_append_right _ h)
theorem rowsT15x2 : True := by
  k_with "callWith ref" => (k_here; k_dflt (refine' callWith_K (by with_reducible assumption) (by k_is) ?_ (by kernel_rfl!) (by kernel_rfl!); k_whole))
  k_with "StopF" => fail "stop"
  exact True.intro
theorem mem_ltA' {p : Addr × Obj} {l : List (Addr × Obj)} (h : p ∈ l) : List.Mem p l := h
local macro_rules | `(tactic| k_mem) => `(tactic| (refine mem_ltA' ?_; with_reducible assumption))
theorem rowsT15x3 : True := by
  k_with "call type:bytes" => (k_here; (with_reducible show wpAny _ _ (call (Value.type "bytes") [Value.int _ _]) _ _ _); k_dflt ((refine' bytes_int' (by omega) (by omega) ?_; (intro bs9 tb9 tkb9 hbs9))))
  k_with "call type:bytes" => (k_here; (with_reducible show wpAny _ _ (call (Value.type "bytes") [Value.bytes _ _]) _ _ _); k_dflt ((refine call_bytes_b ?_)))
  k_with "call builtin:len" => (k_here; (with_reducible show wpAny _ _ (call (Value.builtin "len") [Value.bytes _ _]) _ _ _); k_dflt ((refine' len_bytes (by first | (with_reducible exact Nat.zero_le _) | omega | (simp only [List.size_toArray, List.length_nil]; omega)) ?_)))
  k_with "subscriptTail" => (k_here; (with_reducible show wpAny _ _ (subscriptTail _ (Expr.Slice _ _ none _) (Value.bytes _ _) (Value.ref _)) _ _ _); (with_reducible rename Fr _ _ _ _ => F'); (with_reducible rename News _ _ _ _ => N'); k_dflt ((refine' slice_whole (s := ⟨_, _, _, _, _⟩) F' N' (by omega) (by omega) ?_; (intro c9 h9 t9 k9 hc9 F9 N9); (try k_sweep))))
  k_with "binaryOp Add bytes bytes" => (k_here; (with_reducible show wpAny _ _ (binaryOp Operator.Add (Value.bytes _ _) (Value.bytes _ _)) _ _ _); k_dflt ((refine' add_b' (by omega) ?_; (intro d9 t9 k9 hd9))))
  k_with "call builtin:min" => (k_here; (with_reducible show wpAny _ _ (call (Value.builtin _) [Value.int _ _, Value.int _ _]) _ _ _); (with_unfolding_all refine' min2_K (by with_unfolding_all rfl) (by k_asm) (by k_asm) ?_; k_whole); (intro h' tk' r9 tr9 hr1 hr2 hr3 F' N'); (try k_sweep))
  k_with "call builtin:max" => (k_here; (with_reducible show wpAny _ _ (call (Value.builtin _) [Value.int _ _, Value.int _ _]) _ _ _); (with_unfolding_all refine' max2_K (by with_unfolding_all rfl) (by k_asm) (by k_asm) ?_; k_whole); (intro h' tk' r9 tr9 hr1 hr2 hr3 F' N'); (try k_sweep))
  k_with "call builtin:min" => (k_here; (with_reducible show wpAny _ _ (call (Value.builtin _) [Value.int _ _, Value.int _ _, Value.int _ _]) _ _ _); (with_unfolding_all refine' min3_K (by with_unfolding_all rfl) (by k_asm) (by k_asm) ?_; k_whole); (intro h' tk' r9 tr9 hr1 hr2 hr3 hr4 F' N'); (try k_sweep))
  k_with "call ref" => (k_here; (with_reducible show wpAny _ _ (call (Value.ref 761) _) _ _ _); k_dflt ((refine' lim_new _ _ _ _ _ _ _ _ _ _ _ _ _ _ _ _ _ _ _ _ _ _ _ _ _ _ _ _ (by k_asm) (by k_asm) (by k_asm) (by k_asm) (by k_asm) (by first | exact rfl | assumption) (by ktr_room) ?_; (intro i9 d9 q0 q1 q2 q3 q4 q5 q6 q7 q8 q9 h9 tk9 l1 l2 F9 N9); (try k_lt l1); (try k_lt2 l2); (try k_sweep))))
  exact True.intro
def StopC (p : Prop) : Prop := p
theorem stopC {p : Prop} (h : StopC p) : p := h
theorem rowsT15x4 : True := by
  k_with "call ref" => (k_here; (with_reducible show wpAny _ _ (call (Value.ref 804) _) _ _ _); refine stopC ?_)
  exact True.intro
theorem fl_else {g : Int} (h0 : 0 ≤ g) (h1 : g ≤ 8) : ((254 + g).fmod 256 - 254).fmod 256 = (if false = true then 1 else g) := by
  rw [if_neg (by decide)]
  simp only [Int.fmod_eq_emod_of_nonneg _ (show (0 : Int) ≤ 256 by decide)]
  omega
theorem rowsT15x5 : True := by
  k_with "call ref" => (k_here; (with_reducible show wpAny _ _ (call (Value.ref 585) _) _ _ _); k_dflt ((refine' startW _ _ _ _ _ _ _ _ _ _ _ _ _ _ _ _ _ _ _ _ _ _ _ _ _ (by k_asm) (by k_asm) (by k_asm) (by k_asm) (by k_asm) (by first | exact rfl | assumption) (by ktr_room) (by k_mem) (by k_updF) ?_; (intro kS9 rv9 h9 tk9 F9 N9); (try k_sweep))))
  k_with "call ref" => (k_here; (with_reducible show wpAny _ _ (call (Value.ref 508) _) _ _ _); k_dflt ((refine' tw2W _ _ _ _ _ _ _ _ _ _ _ _ _ _ _ _ _ _ _ _ _ _ _ _ _ _ _ _ _ _ _ _ _ _ _ _ _ (by k_asm) (by k_asm) (by k_asm) (by k_asm) (by k_asm) (by first | exact rfl | assumption) (by ktr_room) (by k_mem) (by k_mem) (by k_mem) (by k_updF) (by omega) (by assumption) (by assumption) ?_; (intro kP9 h9 tk9 F9 N9); (try k_sweep))))
  k_with "call ref" => (k_here; (with_reducible show wpAny _ _ (call (Value.ref 508) [_, Value.int 251 _, _, _]) _ _ _); k_dflt ((refine' tw1W _ _ _ _ _ _ _ _ _ _ _ _ _ _ _ _ _ _ _ _ _ _ _ _ _ _ _ _ _ _ _ _ _ _ _ (by k_asm) (by k_asm) (by k_asm) (by k_asm) (by k_asm) (by first | exact rfl | assumption) (by ktr_room) (by k_mem) (by k_mem) (by k_mem) (by k_updF) (by omega) (by assumption) ?_; (intro kP9 h9 tk9 F9 N9); (try k_sweep))))
  k_with "call ref" => (k_here; (with_reducible show wpAny _ _ (call (Value.ref 253) _) _ _ _); k_dflt ((refine' backW _ _ _ _ _ _ _ _ _ _ _ _ _ _ _ _ _ _ _ _ _ _ _ _ (by k_asm) (by k_asm) (by k_asm) (by k_asm) (by k_asm) (by first | exact rfl | assumption) (by ktr_room) (by k_mem) (by k_updF) (by decide) (by decide) ?_; (intro kC9 b9 h9 tk9 F9 N9); (try k_sweep))))
  k_with "UnrEnd" => (k_here; k_dflt (refine' unr_end (by k_asm) (by k_asm) (by (refine tb_ltOf ?_; (try simp only [AllLt, and_true]); assumption)) ?_))
  exact True.intro
set_option maxRecDepth 100000 in
set_option maxHeartbeats 8000000 in
theorem law_end_F {w : World} {mean : ExcName → Option Value} {mg mb : Str → Option Value} (dp un : Nat) (gd : Option (List Code)) (cn : Str) (cs : Scope) (a : Addr) (ccd : Value) (cl : List (Str × Addr)) (outer : List Env) (A₀ : Around) (base h₀ : Heap) (L : Addr) (m : Str → Option Value) (s : Shared) (Q E : Value → Shared → Prop)
    (syn : Bool) (gone rest : Int) (tgo tr : Tok) (fin : Bool) (wn : Addr) (w0 w1 : Int) (tw0 tw1 : Tok) (nw : Nat) (tries : Int) (tt : Tok) (news : List (Addr × Obj))
    (B : Below A₀ base outer h₀) (F : Fr h₀ L s.heap m) (X : (Tr.pre.heap_1_39 w.params).In h₀) (N : News h₀ L s.heap news)
    (T : Top Tr.pre.view_1_40 (looseW Tr.pre.view_1_40 [Str.ofString "Sender", Str.ofString "Tcb"]) mean mg mb h₀) (hk : cs.kind = .function) (hdp : dp + 20 < recursionLimit) (m0 : (wn, ⟨.type "tuple", none, .seq [.int w0 tw0, .int w1 tw1].toArray nw, #[]⟩) ∈ news) (hg0 : 0 ≤ gone) (hg1 : gone ≤ 8) (hr0 : 0 ≤ rest) (hr1 : rest ≤ 8) (h0 : 0 ≤ w0) (h1 : 0 ≤ w1) (hww : w1 ≤ w0) (htr : tries = 0 ∨ tries = 1 ∨ tries = 2)
    (hret : ∀ (clk cd est ed qu qd pe pd snd sd tcb td li lo re rc cg ak whl wd sl lt en : Addr) (k : Nat → Tok) (ui nx gr : Int) (bs : Array UInt8) (st : Str) (ts tp tg : Tok) (prv : List (Addr × Obj)) h' tk', (bs.size : Int) = gone + rest → (nx - ui).fmod 256 = (if syn = true then 1 else gone) → (∀ p ∈ news, p.1 < td) → @LT.lt Nat _ td tcb → (whl, instObj 740 wd) ∈ prv → (wd, oW w.params k sl lt en 0 tg) ∈ prv → WSt whl wd sl lt en → WI w whl wd sl lt en (fun _ => none) 0 (kpL w.params k snd sd pe qu ui nx gr syn fin pd w1 w0 qd bs clk cd est tries ed) prv → OwnOff prv [tcb, td] → OwnOff prv (news.map (·.1)) → Fr h₀ L h' m → News h₀ L h' (news ++ (tcb, instObj 804 td) :: (td, oT w.params k li lo re snd rc clk cg ak whl st ts 0 tp) :: prv) → Q (.ref tcb) { s with heap := h', toks := tk' }) :
    wpF (model Challenge.rw_xw0347_01.row.prog w) (ktrTop dp un gd cn cs L a ccd cl outer) (call (.ref 1080) [.bool syn, .int gone tgo, .int rest tr, .bool fin, .ref wn, .int tries tt]) Q E s := by
  revert X; k_fill; intro X
  refine wpF_call ?_
  k_dflt (refine' codeF_def ?k1 ?k2 ?k3 ?k4 ?k5 ?kA ?kF ?kK ?k6 ?k7 ?k8 ?k9 ?kB ?_ ?c2 ?c3 ?c4 ?c5; (case kA => exact rfl); (case kF => exact rfl); (case kK => assumption); (case k1 => k_asm); (case k2 => k_asm); (case k3 => k_asm); (case k4 => k_asm); (case k5 => k_asm); (case k6 => k_is); (case k7 => k_is); (case k8 => ktr_room); (case k9 => exact BindsTo.of_eq rfl); (case c5 => decide); (case kB => exact locs rfl); (case c2 => exact rfl); (case c3 => exact rfl); (case c4 => exact rfl); k_whole; intro g' L' h' FG' F' N' B' X' T'; (try dsimp only); (try k_fold))
  refine execsF_cutP (fun P9 hP9 => wpF_of ?_)
  k_steps
  unfold StopC
  k_dflt (refine' tcb_new _ _ _ _ _ _ _ _ _ _ _ _ _ _ _ _ _ _ _ _ _ _ _ _ _ _ _ _ _ _ _ _ _ _ _ _ _ _ _ _ _ _ _ ?k1 ?k2 ?k3 ?k4 ?k5 ?kK ?kd ?m0 ?m1 ?_; (case k1 => k_asm); (case k2 => k_asm); (case k3 => k_asm); (case k4 => k_asm); (case k5 => k_asm); (case kK => first | exact rfl | assumption); (case m0 => k_mem); (case m1 => k_mem); (case kd => ktr_room))
  intro clk cd est ed qu qd pe pd snd sd tcb td cg ak whl wd sl lt en kC kE kQ kP kS kT kW st ts tp tg nwl prv h1 tk1 ch0 ch1 ch2 ch3 ch4 ch5 ch6 ch7 ch8 ch9 ch10 lo1 eq1 m01 m11 S1 W1 in1 O1 F1 N1
  have sub1 := sub4 eq1
  have lo2 := lo4 lo1
  have in2 := in4 in1
  clear eq1 lo1 in1
  have lt0x1 : @LT.lt Nat _ td tcb := ch0
  have ne0x1 : @Ne Nat td tcb := Nat.ne_of_lt lt0x1
  have lt0x2 : @LT.lt Nat _ td sd := Nat.lt_trans lt0x1 ch1
  have ne0x2 : @Ne Nat td sd := Nat.ne_of_lt lt0x2
  have lt0x3 : @LT.lt Nat _ td snd := Nat.lt_trans lt0x2 ch2
  have ne0x3 : @Ne Nat td snd := Nat.ne_of_lt lt0x3
  have lt0x4 : @LT.lt Nat _ td pd := Nat.lt_trans lt0x3 ch3
  have ne0x4 : @Ne Nat td pd := Nat.ne_of_lt lt0x4
  have lt0x5 : @LT.lt Nat _ td pe := Nat.lt_trans lt0x4 ch4
  have ne0x5 : @Ne Nat td pe := Nat.ne_of_lt lt0x5
  have lt0x6 : @LT.lt Nat _ td qd := Nat.lt_trans lt0x5 ch5
  have ne0x6 : @Ne Nat td qd := Nat.ne_of_lt lt0x6
  have lt0x7 : @LT.lt Nat _ td qu := Nat.lt_trans lt0x6 ch6
  have ne0x7 : @Ne Nat td qu := Nat.ne_of_lt lt0x7
  have lt0x8 : @LT.lt Nat _ td ed := Nat.lt_trans lt0x7 ch7
  have ne0x8 : @Ne Nat td ed := Nat.ne_of_lt lt0x8
  have lt0x9 : @LT.lt Nat _ td est := Nat.lt_trans lt0x8 ch8
  have ne0x9 : @Ne Nat td est := Nat.ne_of_lt lt0x9
  have lt0x10 : @LT.lt Nat _ td cd := Nat.lt_trans lt0x9 ch9
  have ne0x10 : @Ne Nat td cd := Nat.ne_of_lt lt0x10
  have lt0x11 : @LT.lt Nat _ td clk := Nat.lt_trans lt0x10 ch10
  have ne0x11 : @Ne Nat td clk := Nat.ne_of_lt lt0x11
  clear lt0x1 lt0x2 lt0x3 lt0x4 lt0x5 lt0x6 lt0x7 lt0x8 lt0x9 lt0x10 lt0x11
  have lt1x2 : @LT.lt Nat _ tcb sd := ch1
  have ne1x2 : @Ne Nat tcb sd := Nat.ne_of_lt lt1x2
  have lt1x3 : @LT.lt Nat _ tcb snd := Nat.lt_trans lt1x2 ch2
  have lt1x4 : @LT.lt Nat _ tcb pd := Nat.lt_trans lt1x3 ch3
  have ne1x4 : @Ne Nat tcb pd := Nat.ne_of_lt lt1x4
  have lt1x5 : @LT.lt Nat _ tcb pe := Nat.lt_trans lt1x4 ch4
  have lt1x6 : @LT.lt Nat _ tcb qd := Nat.lt_trans lt1x5 ch5
  have ne1x6 : @Ne Nat tcb qd := Nat.ne_of_lt lt1x6
  have lt1x7 : @LT.lt Nat _ tcb qu := Nat.lt_trans lt1x6 ch6
  have lt1x8 : @LT.lt Nat _ tcb ed := Nat.lt_trans lt1x7 ch7
  have lt1x9 : @LT.lt Nat _ tcb est := Nat.lt_trans lt1x8 ch8
  have lt1x10 : @LT.lt Nat _ tcb cd := Nat.lt_trans lt1x9 ch9
  have ne1x10 : @Ne Nat tcb cd := Nat.ne_of_lt lt1x10
  clear lt1x2 lt1x3 lt1x4 lt1x5 lt1x6 lt1x7 lt1x8 lt1x9 lt1x10
  have lt2x3 : @LT.lt Nat _ sd snd := ch2
  have ne2x3 : @Ne Nat sd snd := Nat.ne_of_lt lt2x3
  have lt2x4 : @LT.lt Nat _ sd pd := Nat.lt_trans lt2x3 ch3
  have ne2x4 : @Ne Nat sd pd := Nat.ne_of_lt lt2x4
  have lt2x5 : @LT.lt Nat _ sd pe := Nat.lt_trans lt2x4 ch4
  have ne2x5 : @Ne Nat sd pe := Nat.ne_of_lt lt2x5
  have lt2x6 : @LT.lt Nat _ sd qd := Nat.lt_trans lt2x5 ch5
  have ne2x6 : @Ne Nat sd qd := Nat.ne_of_lt lt2x6
  have lt2x7 : @LT.lt Nat _ sd qu := Nat.lt_trans lt2x6 ch6
  have ne2x7 : @Ne Nat sd qu := Nat.ne_of_lt lt2x7
  have lt2x8 : @LT.lt Nat _ sd ed := Nat.lt_trans lt2x7 ch7
  have ne2x8 : @Ne Nat sd ed := Nat.ne_of_lt lt2x8
  have lt2x9 : @LT.lt Nat _ sd est := Nat.lt_trans lt2x8 ch8
  have ne2x9 : @Ne Nat sd est := Nat.ne_of_lt lt2x9
  have lt2x10 : @LT.lt Nat _ sd cd := Nat.lt_trans lt2x9 ch9
  have ne2x10 : @Ne Nat sd cd := Nat.ne_of_lt lt2x10
  have lt2x11 : @LT.lt Nat _ sd clk := Nat.lt_trans lt2x10 ch10
  have ne2x11 : @Ne Nat sd clk := Nat.ne_of_lt lt2x11
  clear lt2x3 lt2x4 lt2x5 lt2x6 lt2x7 lt2x8 lt2x9 lt2x10 lt2x11
  have lt3x4 : @LT.lt Nat _ snd pd := ch3
  have ne3x4 : @Ne Nat snd pd := Nat.ne_of_lt lt3x4
  have lt3x5 : @LT.lt Nat _ snd pe := Nat.lt_trans lt3x4 ch4
  have lt3x6 : @LT.lt Nat _ snd qd := Nat.lt_trans lt3x5 ch5
  have ne3x6 : @Ne Nat snd qd := Nat.ne_of_lt lt3x6
  have lt3x7 : @LT.lt Nat _ snd qu := Nat.lt_trans lt3x6 ch6
  have lt3x8 : @LT.lt Nat _ snd ed := Nat.lt_trans lt3x7 ch7
  have lt3x9 : @LT.lt Nat _ snd est := Nat.lt_trans lt3x8 ch8
  have lt3x10 : @LT.lt Nat _ snd cd := Nat.lt_trans lt3x9 ch9
  have ne3x10 : @Ne Nat snd cd := Nat.ne_of_lt lt3x10
  clear lt3x4 lt3x5 lt3x6 lt3x7 lt3x8 lt3x9 lt3x10
  have lt4x5 : @LT.lt Nat _ pd pe := ch4
  have ne4x5 : @Ne Nat pd pe := Nat.ne_of_lt lt4x5
  have lt4x6 : @LT.lt Nat _ pd qd := Nat.lt_trans lt4x5 ch5
  have ne4x6 : @Ne Nat pd qd := Nat.ne_of_lt lt4x6
  have lt4x7 : @LT.lt Nat _ pd qu := Nat.lt_trans lt4x6 ch6
  have ne4x7 : @Ne Nat pd qu := Nat.ne_of_lt lt4x7
  have lt4x8 : @LT.lt Nat _ pd ed := Nat.lt_trans lt4x7 ch7
  have ne4x8 : @Ne Nat pd ed := Nat.ne_of_lt lt4x8
  have lt4x9 : @LT.lt Nat _ pd est := Nat.lt_trans lt4x8 ch8
  have ne4x9 : @Ne Nat pd est := Nat.ne_of_lt lt4x9
  have lt4x10 : @LT.lt Nat _ pd cd := Nat.lt_trans lt4x9 ch9
  have ne4x10 : @Ne Nat pd cd := Nat.ne_of_lt lt4x10
  have lt4x11 : @LT.lt Nat _ pd clk := Nat.lt_trans lt4x10 ch10
  have ne4x11 : @Ne Nat pd clk := Nat.ne_of_lt lt4x11
  clear lt4x5 lt4x6 lt4x7 lt4x8 lt4x9 lt4x10 lt4x11
  have lt5x6 : @LT.lt Nat _ pe qd := ch5
  have ne5x6 : @Ne Nat pe qd := Nat.ne_of_lt lt5x6
  have lt5x7 : @LT.lt Nat _ pe qu := Nat.lt_trans lt5x6 ch6
  have lt5x8 : @LT.lt Nat _ pe ed := Nat.lt_trans lt5x7 ch7
  have lt5x9 : @LT.lt Nat _ pe est := Nat.lt_trans lt5x8 ch8
  have lt5x10 : @LT.lt Nat _ pe cd := Nat.lt_trans lt5x9 ch9
  have ne5x10 : @Ne Nat pe cd := Nat.ne_of_lt lt5x10
  clear lt5x6 lt5x7 lt5x8 lt5x9 lt5x10
  have lt6x7 : @LT.lt Nat _ qd qu := ch6
  have ne6x7 : @Ne Nat qd qu := Nat.ne_of_lt lt6x7
  have lt6x8 : @LT.lt Nat _ qd ed := Nat.lt_trans lt6x7 ch7
  have ne6x8 : @Ne Nat qd ed := Nat.ne_of_lt lt6x8
  have lt6x9 : @LT.lt Nat _ qd est := Nat.lt_trans lt6x8 ch8
  have ne6x9 : @Ne Nat qd est := Nat.ne_of_lt lt6x9
  have lt6x10 : @LT.lt Nat _ qd cd := Nat.lt_trans lt6x9 ch9
  have ne6x10 : @Ne Nat qd cd := Nat.ne_of_lt lt6x10
  have lt6x11 : @LT.lt Nat _ qd clk := Nat.lt_trans lt6x10 ch10
  have ne6x11 : @Ne Nat qd clk := Nat.ne_of_lt lt6x11
  clear lt6x7 lt6x8 lt6x9 lt6x10 lt6x11
  have lt7x8 : @LT.lt Nat _ qu ed := ch7
  have lt7x9 : @LT.lt Nat _ qu est := Nat.lt_trans lt7x8 ch8
  have lt7x10 : @LT.lt Nat _ qu cd := Nat.lt_trans lt7x9 ch9
  have ne7x10 : @Ne Nat qu cd := Nat.ne_of_lt lt7x10
  clear lt7x8 lt7x9 lt7x10
  have lt8x9 : @LT.lt Nat _ ed est := ch8
  have lt8x10 : @LT.lt Nat _ ed cd := Nat.lt_trans lt8x9 ch9
  have ne8x10 : @Ne Nat ed cd := Nat.ne_of_lt lt8x10
  clear lt8x9 lt8x10
  have lt9x10 : @LT.lt Nat _ est cd := ch9
  have ne9x10 : @Ne Nat est cd := Nat.ne_of_lt lt9x10
  clear lt9x10
  have lt10x11 : @LT.lt Nat _ cd clk := ch10
  have ne10x11 : @Ne Nat cd clk := Nat.ne_of_lt lt10x11
  clear lt10x11
  (try k_sweep)
  k_steps
  refine stopF (hP9 _ ?_)
  refine execsF_cutP (fun P9 hP9 => ?_)
  k_dflt (refine assignF_tuple ?_)
  refine tupleF ?_
  refine argsF_cons ?_
  refine exprF_call ?_
  k_steps
  have hz9 : (#[] : Array UInt8).size = 0 := rfl
  have mW := mem_sub9 (by assumption) m0
  k_dflt (refine' callF_K (K := Tr.pre.heap_1_39 w.params) ?kk1 ?_ ?kk2 ?kk3; (case kk1 => k_is); (case kk2 => kernel_rfl!); (case kk3 => kernel_rfl!))
  k_steps
  k_dflt (refine' recv_F _ _ _ _ _ _ _ _ _ _ _ _ _ _ _ _ _ _ _ _ _ _ ?k1 ?k2 ?k3 ?k4 ?k5 ?kK ?kd ?_; (case k1 => k_asm); (case k2 => k_asm); (case k3 => k_asm); (case k4 => k_asm); (case k5 => k_asm); (case kK => first | exact rfl | assumption); (case kd => ktr_room))
  intro rc9 h9 tk9 F9 N9
  (try k_sweep)
  refine wpF_of ?_
  k_steps
  refine stopF (hP9 _ ?_)
  refine execsF_midP (by assumption : Fr g' L' _ _) (fun mm s' => (∀ R9 : Prop, (∀ (li lo re rc : Addr) (kQ : Nat → Tok) (bs : Array UInt8) (h : Heap) (tk : Nat), (bs.size : Int) = gone + rest → s' = { s with heap := h, toks := tk } → Fr g' L' h mm → News g' L' h ((clk, instObj 277 cd) :: (cd, oC w.params kC est 0) :: (est, instObj 333 ed) :: (ed, oE w.params kE) :: (qu, instObj 433 qd) :: (qd, oQ w.params kQ bs) :: (pe, instObj 475 pd) :: (pd, oPX w.params kP .none 0 0 0) :: (snd, instObj 666 sd) :: (sd, oS w.params kS pe qu 253 253 253 true false) :: (tcb, instObj 804 td) :: (td, oT w.params kT li lo re snd rc clk cg ak whl st ts 0 tp) :: prv) → R9) → R9)) ?_ ?_
  · intro P9 hP9
    k_steps
    refine stopF (hP9 _ ?_)
    intro R9 k9; refine' k9 _ _ _ _ (kup kQ 30 _) _ _ _ ?zz1 rfl ?zz2 ?zz3
    case zz3 => refine' news_tl ?zz4; (case zz4 => k_asm)
    case zz2 => k_asm
    case zz1 => omega
  rintro s' M9; refine M9 _ ?_; clear M9; rintro li lo re rc kQ2 bs h2 tk2 hbs rfl F2 N2
  refine execsF_midP F2 (fun mm s' => (∀ R9 : Prop, (∀ (h : Heap) (tk : Nat), s' = { s with heap := h, toks := tk } → Fr g' L' h mm → News g' L' h ((clk, instObj 277 cd) :: (cd, oC w.params kC est 0) :: (est, instObj 333 ed) :: (ed, oE w.params kE) :: (qu, instObj 433 qd) :: (qd, oQ w.params kQ2 bs) :: (pe, instObj 475 pd) :: (pd, oPX w.params kP .none 0 0 0) :: (snd, instObj 666 sd) :: (sd, oS w.params kS pe qu 253 253 253 true fin) :: (tcb, instObj 804 td) :: (td, oT w.params kT li lo re snd rc clk cg ak whl st ts 0 tp) :: prv) → R9) → R9)) ?_ ?_
  · intro P9 hP9
    k_steps
    · refine stopF (hP9 _ ?_)
      have e9 : fin = true := by assumption
      intro R9 k9; refine' k9 _ _ rfl ?zy2 ?zy3
      case zy3 => rw [e9]; k_asm
      case zy2 => k_asm
    · refine stopF (hP9 _ ?_)
      have e9 : fin = false := by assumption
      intro R9 k9; refine' k9 _ _ rfl ?zx2 ?zx3
      case zx3 => rw [e9]; k_asm
      case zx2 => k_asm
  rintro s' M9; refine M9 _ ?_; clear M9; rintro h3 tk3 rfl F3 N3
  clear N2 F2
  refine execsF_midP F3 (fun mm s' => (∀ R9 : Prop, (∀ (ui nx gr : Int) (kS2 : Nat → Tok) (h : Heap) (tk : Nat), (nx - ui).fmod 256 = (if syn = true then 1 else gone) → s' = { s with heap := h, toks := tk } → Fr g' L' h mm → News g' L' h ((clk, instObj 277 cd) :: (cd, oC w.params kC est 0) :: (est, instObj 333 ed) :: (ed, oE w.params kE) :: (qu, instObj 433 qd) :: (qd, oQ w.params kQ2 bs) :: (pe, instObj 475 pd) :: (pd, oPX w.params kP .none 0 0 0) :: (snd, instObj 666 sd) :: (sd, oS w.params kS2 pe qu ui nx gr syn fin) :: (tcb, instObj 804 td) :: (td, oT w.params kT li lo re snd rc clk cg ak whl st ts 0 tp) :: prv) → R9) → R9)) ?_ ?_
  · intro P9 hP9
    k_steps
    · refine stopF (hP9 _ ?_)
      have e9 : syn = true := by assumption
      intro R9 k9; refine' k9 253 254 254 _ _ _ ?zw1 rfl ?zw2 ?zw3
      case zw3 => rw [e9]; k_asm
      case zw2 => k_asm
      case zw1 => rw [e9]; rfl
    · refine stopF (hP9 _ ?_)
      have e9 : syn = false := by assumption
      intro R9 k9; refine' k9 254 _ _ (kup (kup (kup kS 7 _) 9 _) 11 _) _ _ ?zv1 rfl ?zv2 ?zv3
      case zv3 => rw [e9]; refine' news_tl ?zv4; (case zv4 => k_asm)
      case zv2 => k_asm
      case zv1 => rw [e9]; exact fl_else hg0 hg1
  rintro s' M9; refine M9 _ ?_; clear M9; rintro ui nx gr kS2 h4 tk4 hfl rfl F4 N4
  clear N3 F3
  refine execsF_cutP (fun P9 hP9 => wpF_of ?_)
  k_steps
  refine stopF (hP9 _ ?_)
  refine execsF_cutP (fun P9 hP9 => wpF_of ?_)
  k_steps
  refine stopF (hP9 _ ?_)
  have fin9 : ∀ (kC2 kP2 : Nat → Tok) (tq : Tok) (h' : Heap) (tk' : Nat), Fr h₀ L h' m → News h₀ L h' ((clk, instObj 277 cd) :: (cd, oC w.params kC2 est tries) :: (est, instObj 333 ed) :: (ed, oE w.params kE) :: (qu, instObj 433 qd) :: (qd, oQ w.params kQ2 bs) :: (pe, instObj 475 pd) :: (pd, oPX w.params kP2 (.int 252 tq) 254 w1 w0) :: (snd, instObj 666 sd) :: (sd, oS w.params kS2 pe qu ui nx gr syn fin) :: (tcb, instObj 804 td) :: (td, oT w.params kT li lo re snd rc clk cg ak whl st ts 0 tp) :: prv) → Q (.ref tcb) { s with heap := h', toks := tk' } := fun kC2 kP2 tq h' tk' F9 N9 => by
    obtain ⟨f1, f2, f3, f4, f5⟩ := end_facts (kS := kS2) (kP := kup kP2 24 tq) (kQ := kQ2) (kC := kC2) (kE := kE) (kT := kT) (ui := ui) (nx := nx) (gr := gr) (win := w1) (mo := w0) (tries := tries) (syn := syn) (fin := fin) (bs := bs) m01 m11 W1 in2 O1 sub1 lo2 ch0 ch1 ch2 ch3 ch4 ch5 ch6 ch7 ch8 ch9 ch10
    exact hret clk cd est ed qu qd pe pd snd sd tcb td li lo re rc cg ak whl wd sl lt en _ ui nx gr bs st ts tp tg _ h' tk' hbs hfl lo2 ch0 f1 f2 S1 f3 f4 f5 F9 (end_news (wd := wd) (sl := sl) (lt := lt) (en := en) (tg := tg) N9 sub1)
  rcases htr with rfl | rfl | rfl
  · refine execsF_cutP (fun P9 hP9 => wpF_of ?_)
    k_steps
    refine stopF (hP9 _ ?_)
    refine wpF_of ?_
    k_steps
    exact fin9 _ _ _ _ _ (by k_asm) (by k_asm)
  · refine execsF_cutP (fun P9 hP9 => wpF_of ?_)
    k_steps
    refine stopF (hP9 _ ?_)
    refine wpF_of ?_
    k_steps
    exact fin9 _ _ _ _ _ (by k_asm) (by k_asm)
  · refine execsF_cutP (fun P9 hP9 => wpF_of ?_)
    k_steps
    refine stopF (hP9 _ ?_)
    refine wpF_of ?_
    k_steps
    exact fin9 _ _ _ _ _ (by k_asm) (by k_asm)
end
-- T18
section
theorem norowsT18 : True := by
  k_with_none
  exact True.intro
inductive EndAt (w : World) (b0 b1 : Bool) (z2 : Int) (tcb : Addr) (own : List (Addr × Obj)) (bd : Nat) (k : Nat → Tok) (snd : Addr) (sd : Addr) (pe : Addr) (qu : Addr) (ui : Int) (nx : Int) (gr : Int) (syn : Bool) (fin : Bool) (pd : Addr) (win : Int) (mo : Int) (qd : Addr) (bs : Array UInt8) (clk : Addr) (cd : Addr) (est : Addr) (tries : Int) (ed : Addr) (td : Addr) (li : Addr) (lo : Addr) (re : Addr) (rc : Addr) (cg : Addr) (ak : Addr) (st : Str) (ts : Tok) (pr : Int) (tp : Tok) (whl : Addr) (wd : Addr) (sl : Addr) (lt : Addr) (en : Addr) (gv : Int) (tg : Tok) (tm : Int → Option Int) (prv : List (Addr × Obj)) : Prop where
  | mk (eq : own = (tcb, instObj 804 td) :: (td, oT w.params k li lo re snd rc clk cg ak whl st ts pr tp) :: prv) (m0 : (whl, instObj 740 wd) ∈ prv) (m1 : (wd, oW w.params k sl lt en gv tg) ∈ prv) (WS : WSt whl wd sl lt en) (W : WI w whl wd sl lt en tm bd (kpL w.params k snd sd pe qu ui nx gr syn fin pd win mo qd bs clk cd est tries ed) prv) (oT : OwnOff prv [tcb, td]) (tt : @Ne Nat td tcb) (hs : bs.size ≤ 40) (hw : 0 ≤ win) (tr : tries = 0 ∨ tries = 1 ∨ tries = 2) (h3 : tm 3 = none) (h4 : tm 4 = none) (e0 : b0 = !decide ((nx - ui).fmod 256 = 0)) (e1 : b1 = np syn fin ((nx - ui).fmod 256) bs.size win mo) (e2 : z2 = wt tries) : EndAt w b0 b1 z2 tcb own bd k snd sd pe qu ui nx gr syn fin pd win mo qd bs clk cd est tries ed td li lo re rc cg ak st ts pr tp whl wd sl lt en gv tg tm prv
inductive TcbIs (w : World) (b0 b1 : Bool) (z2 : Int) (tcb : Addr) (own : List (Addr × Obj)) (bd : Nat) : Prop where
  | mk (k : Nat → Tok) (snd : Addr) (sd : Addr) (pe : Addr) (qu : Addr) (ui : Int) (nx : Int) (gr : Int) (syn : Bool) (fin : Bool) (pd : Addr) (win : Int) (mo : Int) (qd : Addr) (bs : Array UInt8) (clk : Addr) (cd : Addr) (est : Addr) (tries : Int) (ed : Addr) (td : Addr) (li : Addr) (lo : Addr) (re : Addr) (rc : Addr) (cg : Addr) (ak : Addr) (st : Str) (ts : Tok) (pr : Int) (tp : Tok) (whl : Addr) (wd : Addr) (sl : Addr) (lt : Addr) (en : Addr) (gv : Int) (tg : Tok) (tm : Int → Option Int) (prv : List (Addr × Obj)) (H : EndAt w b0 b1 z2 tcb own bd k snd sd pe qu ui nx gr syn fin pd win mo qd bs clk cd est tries ed td li lo re rc cg ak st ts pr tp whl wd sl lt en gv tg tm prv) : TcbIs w b0 b1 z2 tcb own bd
theorem allNe_of {a : Addr} : ∀ {l : List Addr}, (∀ b ∈ l, @Ne Nat a b) → AllNe a l
  | [], _ => trivial
  | _ :: _, h => ⟨h _ (.head _), allNe_of fun b hb => h b (.tail _ hb)⟩
theorem state_rightT {w : World} {mean : ExcName → Option Value} {mg mb : Str → Option Value} {dp un : Nat} {gd : Option (List Code)} {cn : Str} {cs : Scope} {a : Addr} {ccd : Value} {cl : List (Str × Addr)} {outer : List Env} {A₀ : Around} {base h₀ : Heap} {L : Addr} {m : Str → Option Value} {s : Shared} {Q E : Value → Shared → Prop}
    {b0 b1 : Bool} {z2 : Int} {tcb : Addr} {own : List (Addr × Obj)} {bd : Nat} {now : Int} {tn : Tok} {wi ti : Addr} {x0 x1 : Int} {tz tx0 tx1 : Tok} {nwi nti : Nat} {pr1 : Int} {tp1 : Tok} {st1 : Str} {ts1 : Tok} {news loc : List (Addr × Obj)}
    (B : Below A₀ base outer h₀) (F : Fr h₀ L s.heap m) (X : (Tr.pre.heap_1_39 w.params).In h₀) (N : News h₀ L s.heap news)
    (T : Top Tr.pre.view_1_40 (looseW Tr.pre.view_1_40 [Str.ofString "Sender", Str.ofString "Tcb"]) mean mg mb h₀) (hk : cs.kind = .function) (hdp : dp + 12 < recursionLimit) (hun : un + 1000 < cLine) (H : TcbIs w b0 b1 z2 tcb own bd) (sp : Spl own news loc) (mw : (wi, listOf [.bool b0, .bool b1, .int z2 tz].toArray nwi) ∈ loc) (mt : (ti, listOf [.int x0 tx0, .int x1 tx1].toArray nti) ∈ loc) (off : OwnOff own (loc.map (·.1))) (hbd : bd ≤ 800) (hp0 : 0 ≤ pr1) (hp1 : pr1 < 8) (hx0 : 0 ≤ x0) (hx1 : 0 ≤ x1)
    (hret : ∀ own2 h' tk', TcbIs w b0 b1 z2 tcb own2 (bd + 4) → OwnOff own2 (loc.map (·.1)) → Fr h₀ L h' m → News h₀ L h' (loc ++ own2) → Q (.bool true) { s with heap := h', toks := tk' }) :
    wpAny (model Challenge.rw_xw0347_01.row.prog w) (ktrTop dp un gd cn cs L a ccd cl outer) (call (.ref 1092) [.ref tcb, .str st1 ts1, .ref wi, .ref ti, .int pr1 tp1, .int now tn]) Q E s := by
  obtain ⟨k, snd, sd, pe, qu, ui, nx, gr, syn, fin, pd, win, mo, qd, bs, clk, cd, est, tries, ed, td, li, lo, re, rc, cg, ak, st, ts, pr, tp, whl, wd, sl, lt, en, gv, tg, tm, prv, H⟩ := H
  obtain ⟨rfl, m0, m1, WS, W, oT, tt, hs, hw, tr, h3, h4, e0, e1, e2⟩ := H
  have a1 : AllNe tcb (loc.map (·.1)) := allNe_of fun b hb => off _ (.head _) b hb
  have a2 : AllNe td (loc.map (·.1)) := allNe_of fun b hb => off _ (.tail _ (.head _)) b hb
  have off' : OwnOff prv (loc.map (·.1)) := fun p hp => off p (.tail _ (.tail _ hp))
  refine state_rightW dp un gd cn cs a ccd cl outer A₀ base h₀ L m s Q E k snd sd pe qu ui nx gr syn fin pd win mo qd bs clk cd est tries ed tcb td li lo re rc cg ak st ts pr tp whl wd sl lt en gv tg tm bd prv now tn wi ti b0 b1 z2 x0 x1 tz tx0 tx1 nwi nti pr1 tp1 st1 ts1 news loc B F X N T hk hdp sp mw mt m0 m1 WS W off' oT a1 a2 hbd tt hs hw tr hp0 hp1 hx0 hx1 h3 h4 e0 e1 e2 hun (fun prv2 tp2 gv2 tg2 h' tk' n0 n1 W2 offT2 off2 F' N' => hret _ h' tk' ⟨k, snd, sd, pe, qu, ui, nx, gr, syn, fin, pd, win, mo, qd, bs, clk, cd, est, tries, ed, td, li, lo, re, rc, cg, ak, st1, ts1, _, tp2, whl, wd, sl, lt, en, gv2, tg2, _, prv2, ⟨rfl, n0, n1, WS, W2, offT2, tt, hs, hw, tr, ?_, ?_, e0, e1, e2⟩⟩ ?_ F' N')
  · rw [kT_hi (by decide) (by decide)]; exact h3
  · rw [kT_hi (by decide) (by decide)]; exact h4
  · intro p hp b hb
    rcases List.mem_cons.mp hp with rfl | hp
    · exact a1.ne b hb
    rcases List.mem_cons.mp hp with rfl | hp
    · exact a2.ne b hb
    · exact off2 p hp b hb
theorem end_e0 {syn : Bool} {gone fl : Int} (hg : 0 ≤ gone) (h : fl = (if syn = true then 1 else gone)) : (!(!syn && gone == 0)) = !decide (fl = 0) := by
  subst h
  cases syn with
  | true => rfl
  | false =>
    rw [if_neg (by decide)]
    by_cases h : gone = 0
    · subst h; rfl
    · rw [decide_eq_false h, show (gone == 0) = false from beq_false_of_ne h]; rfl
theorem end_e1 {syn fin : Bool} {gone rest fl sz w0 w1 : Int} (hg : 0 ≤ gone) (h : fl = (if syn = true then 1 else gone)) (hz : sz = gone + rest) : ((!syn && gone == 0) && prb fin rest w1 w0) = np syn fin fl sz w1 w0 := by
  subst h
  unfold np
  cases syn with
  | true => rw [if_pos (.inl rfl)]; rfl
  | false =>
    rw [if_neg (show ¬ (false = true) by decide)]
    by_cases h : gone = 0
    · subst h
      rw [if_neg (show ¬ (false = true ∨ (0 : Int) < 0) by decide), hz, show (0 : Int) + rest = rest by omega]
      rfl
    · rw [if_pos (show false = true ∨ 0 < gone from .inr (by omega)), show (gone == 0) = false from beq_false_of_ne h]
      rfl
theorem law_endT {w : World} {mean : ExcName → Option Value} {mg mb : Str → Option Value} {dp un : Nat} {gd : Option (List Code)} {cn : Str} {cs : Scope} {a : Addr} {ccd : Value} {cl : List (Str × Addr)} {outer : List Env} {A₀ : Around} {base h₀ : Heap} {L : Addr} {m : Str → Option Value} {s : Shared} {Q E : Value → Shared → Prop}
    {syn : Bool} {gone rest : Int} {tgo tr : Tok} {fin : Bool} {wn : Addr} {w0 w1 : Int} {tw0 tw1 : Tok} {nw : Nat} {tries : Int} {tt : Tok} {news : List (Addr × Obj)}
    (B : Below A₀ base outer h₀) (F : Fr h₀ L s.heap m) (X : (Tr.pre.heap_1_39 w.params).In h₀) (N : News h₀ L s.heap news)
    (T : Top Tr.pre.view_1_40 (looseW Tr.pre.view_1_40 [Str.ofString "Sender", Str.ofString "Tcb"]) mean mg mb h₀) (hk : cs.kind = .function) (hdp : dp + 20 < recursionLimit) (m0 : (wn, ⟨.type "tuple", none, .seq [.int w0 tw0, .int w1 tw1].toArray nw, #[]⟩) ∈ news) (hg0 : 0 ≤ gone) (hg1 : gone ≤ 8) (hr0 : 0 ≤ rest) (hr1 : rest ≤ 8) (h0 : 0 ≤ w0) (h1 : 0 ≤ w1) (hww : w1 ≤ w0) (htr : tries = 0 ∨ tries = 1 ∨ tries = 2)
    (hret : ∀ tcb own h' tk', TcbIs w (!(!syn && gone == 0)) ((!syn && gone == 0) && prb fin rest w1 w0) (wt tries) tcb own 0 → OwnOff own (news.map (·.1)) → Fr h₀ L h' m → News h₀ L h' (news ++ own) → Q (.ref tcb) { s with heap := h', toks := tk' }) :
    wpF (model Challenge.rw_xw0347_01.row.prog w) (ktrTop dp un gd cn cs L a ccd cl outer) (call (.ref 1080) [.bool syn, .int gone tgo, .int rest tr, .bool fin, .ref wn, .int tries tt]) Q E s := by
  refine law_end_F dp un gd cn cs a ccd cl outer A₀ base h₀ L m s Q E syn gone rest tgo tr fin wn w0 w1 tw0 tw1 nw tries tt news B F X N T hk hdp m0 hg0 hg1 hr0 hr1 h0 h1 hww htr (fun clk cd est ed qu qd pe pd snd sd tcb td li lo re rc cg ak whl wd sl lt en k ui nx gr bs st ts tp tg prv h' tk' hbs hfl lo2 ch n0 n1 S1 W1 oT off F' N' => hret tcb _ h' tk' ⟨k, snd, sd, pe, qu, ui, nx, gr, syn, fin, pd, w1, w0, qd, bs, clk, cd, est, tries, ed, td, li, lo, re, rc, cg, ak, st, ts, 0, tp, whl, wd, sl, lt, en, 0, tg, (fun _ => none), prv, ⟨rfl, n0, n1, S1, W1, oT, ?_, ?_, h1, htr, rfl, rfl, end_e0 hg0 hfl, end_e1 hg0 hfl hbs, rfl⟩⟩ ?_ F' N')
  · exact Nat.ne_of_lt ch
  · omega
  · intro p hp b hb
    obtain ⟨q, hq, rfl⟩ := List.mem_map.mp hb
    have hlo : @LT.lt Nat _ q.1 td := lo2 q hq
    rcases List.mem_cons.mp hp with rfl | hp
    · exact fun e => Nat.lt_irrefl _ (Nat.lt_trans (show @LT.lt Nat _ td q.1 from e ▸ ch) hlo)
    rcases List.mem_cons.mp hp with rfl | hp
    · exact fun e => Nat.lt_irrefl _ (show @LT.lt Nat _ q.1 q.1 from (show @Eq Nat td q.1 from e) ▸ hlo)
    · exact off p hp _ (List.mem_map_of_mem hq)
end
-- T19
section
section
variable {prog : Program} {w : World} {A A₀ : Around} {K : Frag} {s : Shared} {h₀ base : Heap} {L : Addr} {m mg mb : Str → Option Value} {news : List (Addr × Obj)} {R : Result → Shared → Prop} {p : Program} {loose : List Str} {mean : ExcName → Option Value}
theorem codeF_defF {env : Env} {outer : List Env} {name qual : Str} {params : Arguments} {body : List Stmt} {scope : Scope} {dV kV doc pm cdv ct oc : Value} {an od : Option Addr} {osl : Array (Option Value)} {f : Addr} {args : Args} {binds : List (Str × Value)}
    (B : Below A₀ base outer h₀) (F : Fr h₀ L s.heap m) (X₀ : K.In h₀) (N : News h₀ L s.heap news) (T : Top p loose mean mg mb h₀) (hA : A.frames = some (env :: outer)) (hf : env.frame = some L) (hke : env.scope.kind = .function)
    (ho : K.lookup f = some ⟨oc, od, .func (fnOf name qual params body scope dV kV doc pm an cdv ct), osl⟩) (hcd : codeIn K cdv qual = true) (hroom : A.depth < recursionLimit)
    (hbind : BindsTo s (fnOf name qual params body scope dV kV doc pm an cdv ct) args binds) (hloc : ∀ y ∈ binds, scope.names.lookup y.1 = some .local)
    (h : ∀ g L' h₁, Fr h₀ L g m → Fr g L' h₁ (fun y => binds.reverse.lookup y) → News g L' h₁ news → Below A base (env :: outer) g → K.In g → Top p loose mean mg mb g → KeepBut s.heap g (news.map (·.1)) →
      wpF (model prog w) (A.deeper (envOf qual scope L' f cdv)) (execs body (envOf qual scope L' f cdv))
        (fun fl s' => LeaveK h₀ L m g R (match fl with | .ret v => v | _ => .none) s')
        (fun e s' => wpAny (model prog w) (A.deeper (envOf qual scope L' f cdv)) (leaving (envOf qual scope L' f cdv) e) (fun _ s'' => R (.error e) s'') (fun e' s'' => R (.error e') s'') s')
        { s with heap := h₁, toks := s.toks + binds.length })
    (hco : scope.isCoroutine = false) (hgen : scope.isGenerator = false) (hk : scope.kind = .function)
    (hcell : ∀ x ∈ scope.names, x.2 ≠ .cell) : codeF (model prog w) A (.call (.ref f) args) R s := by
  obtain ⟨FG, BG, st, lv⟩ := groundX (R := R) B F N hA hf hke
  refine codeF_call_function hroom ((X₀.keeps F.keep) _ _ ho) rfl hco hgen rfl (codeRec_of (X₀.keeps F.keep) hcd) (hbind _ _ _ _ ?_)
  refine wpAny_newFunctionEnv hcell hloc (fun h₁ hns hsb => ⟨(T.nolimit.keeps F.keep).fresh _ hsb, codeF_func ?_⟩) hk
  have hk₁ : ∀ b o, s.heap.get? b = some o → h₁.get? b = some o := fun b o e => hsb.extBut b o (Nat.ne_of_lt (Heap.lt_size e)) (Heap.get?_push_of_some _ e)
  refine wpF_mono (h _ s.heap.objs.size h₁ FG ⟨hns, fun b o e => hk₁ b o (of_hideAll _ e), Nat.le_of_eq (hideAll_size _ _)⟩ (fun q hq => ⟨hk₁ _ _ (N q hq).1, Nat.ne_of_lt (Heap.lt_size (N q hq).1), hideAll_none _ (List.mem_map_of_mem hq)⟩) BG (X₀.keeps st) (T.keeps st) (fun b o e hb => hideAll_get _ e hb)) (fun fl s' hl => lv _ _ hl) fun _ _ y => y
end
theorem news_none {h₀ h : Heap} {L : Addr} {news : List (Addr × Obj)} (_ : News h₀ L h news) : News h₀ L h [] := fun _ hp => nomatch hp
set_option maxRecDepth 100000 in
set_option maxHeartbeats 8000000 in
theorem told_ok {w : World} {mean : ExcName → Option Value} {mg mb : Str → Option Value} (dp un : Nat) (gd : Option (List Code)) (cn : Str) (cs : Scope) (a : Addr) (ccd : Value) (cl : List (Str × Addr)) (outer : List Env) (A₀ : Around) (base h₀ : Heap) (L : Addr) (m : Str → Option Value) (s : Shared) (Q E : Value → Shared → Prop)
    (B : Below A₀ base outer h₀) (F : Fr h₀ L s.heap m) (X : (Tr.pre.heap_1_39 w.params).In h₀) (N : News h₀ L s.heap [])
    (T : Top Tr.pre.view_1_40 (looseW Tr.pre.view_1_40 [Str.ofString "Sender", Str.ofString "Tcb"]) mean mg mb h₀) (hk : cs.kind = .function) (hdp : dp + 25 < recursionLimit) (hun : un + 1100 < cLine)
    (hret : ∀ h' tk', KeepBut s.heap h' [] → Fr h₀ L h' m → Q (.bool true) { s with heap := h', toks := tk' }) :
    wpF (model Challenge.rw_xw0347_01.row.prog w) (ktrTop dp un gd cn cs L a ccd cl outer) (call (.ref 1106) []) Q E s := by
  k_with_none
  k_with "data" => ((repeat ((fail_if_success (refine Classical.byContradiction ?_)); rotate_left)))
  k_with "callWith ref" => ((k_here; k_dflt (refine' callWith_K ?_ ?_ ?_ ?_ ?_; k_extra "data"; (with_reducible assumption); k_is; rotate_left; kernel_rfl!; kernel_rfl!); k_whole))
  k_with "callWith ref" => ((k_here; (with_reducible show wpAny _ _ (callWith _ _ _ (backTo _ (starEach [] _)) []) _ _ _); (with_reducible rename Fr _ _ _ _ => kF); k_dflt (refine' callWith_K0 (Frag.In.keeps ?_ (Fr.keep kF)) ?_ ?_; k_extra "data"; (with_reducible assumption); k_is); k_whole))
  k_with "call ref" => ((k_here; (with_reducible show wpAny _ _ (call (Value.ref 1099) _) _ _ _); k_dflt (refine' wishes_ok _ _ _ _ _ _ _ _ _ _ _ _ _ _ _ _ _ _ _ _ _ _ _ _ _ _ _ _ _ _ _ _ ?_ ?_ ?_ ?_ ?_ ?_ ?_ ?_ ?_ ?_ ?_ ?_ ?_; k_extra "data"; k_asm; k_asm; k_asm; k_asm; k_asm; (first | exact rfl | assumption); ktr_room; k_mem; (first | assumption | decide | omega); (first | assumption | decide | omega); (first | assumption | decide | omega); (first | assumption | decide | omega); intro wl9 bb0 bb1 zz2 tz9 nl9 h9 tk9 l1 e0 e1 e2 F9 N9); (subst e0 e1 e2); (try k_lt l1); (try k_sweep)))
  k_with "call ref" => ((k_here; (with_reducible show wpAny _ _ (call (Value.ref 1092) _) _ _ _); k_dflt (refine' state_rightT ?_ ?_ ?_ ?_ ?_ ?_ ?_ ?_ ?_ ?_ ?_ ?_ ?_ ?_ ?_ ?_ ?_ ?_ ?_; k_extra "data"; k_asm; k_asm; k_asm; k_asm; k_asm; (first | exact rfl | assumption); ktr_room; (first | assumption | ((try dsimp only [ktrTop]); first | decide | omega)); assumption; (first | exact Spl.nil | exact (Spl.cons Spl.nil) | exact (Spl.cons (Spl.cons Spl.nil)) | exact (Spl.cons (Spl.cons (Spl.cons Spl.nil))) | exact (Spl.cons (Spl.cons (Spl.cons (Spl.cons Spl.nil)))) | exact (Spl.cons (Spl.cons (Spl.cons (Spl.cons (Spl.cons Spl.nil))))) | exact (Spl.cons (Spl.cons (Spl.cons (Spl.cons (Spl.cons (Spl.cons Spl.nil)))))) | exact (Spl.cons (Spl.cons (Spl.cons (Spl.cons (Spl.cons (Spl.cons (Spl.cons Spl.nil))))))) | exact (Spl.cons (Spl.cons (Spl.cons (Spl.cons (Spl.cons (Spl.cons (Spl.cons (Spl.cons Spl.nil))))))))); k_mem; k_mem; (dsimp only [List.map]; ((repeat' (first | exact own_nil | refine own_cons ?_ ?_)) <;> (first | (refine ne_lo0 (ktn_ltOf ?_); tbn_find) | exact (fun p hp => O9 p hp _ (by first | exact .head _ | exact .tail _ (.head _) | exact .tail _ (.tail _ (.head _)) | exact .tail _ (.tail _ (.tail _ (.head _))) | exact .tail _ (.tail _ (.tail _ (.tail _ (.head _)))) | exact .tail _ (.tail _ (.tail _ (.tail _ (.tail _ (.head _))))) | exact .tail _ (.tail _ (.tail _ (.tail _ (.tail _ (.tail _ (.head _)))))) | exact .tail _ (.tail _ (.tail _ (.tail _ (.tail _ (.tail _ (.tail _ (.head _))))))) | exact .tail _ (.tail _ (.tail _ (.tail _ (.tail _ (.tail _ (.tail _ (.tail _ (.head _)))))))) | exact .tail _ (.tail _ (.tail _ (.tail _ (.tail _ (.tail _ (.tail _ (.tail _ (.tail _ (.head _)))))))))))))); (first | assumption | decide | omega); (first | assumption | decide); (first | assumption | decide); (first | assumption | decide); (first | assumption | decide); intro own9 h9 tk9 H9 O9 F9 N9); (try dsimp only [List.map] at O9); (try simp only [List.cons_append, List.nil_append] at N9); (try k_sweep)))
  revert X; k_fill; intro X
  refine wpF_call ?_
  k_dflt (refine' codeF_defF ?k1 ?k2 ?k3 ?k4 ?k5 ?kA ?kF ?kK ?k6 ?k7 ?k8 ?k9 ?kB ?_ ?c2 ?c3 ?c4 ?c5; (case kA => exact rfl); (case kF => exact rfl); (case kK => assumption); (case k1 => k_asm); (case k2 => k_asm); (case k3 => k_asm); (case k4 => k_asm); (case k5 => k_asm); (case k6 => k_is); (case k7 => k_is); (case k8 => ktr_room); (case k9 => exact BindsTo.of_eq rfl); (case c5 => decide); (case kB => exact locs rfl); (case c2 => exact rfl); (case c3 => exact rfl); (case c4 => exact rfl); k_whole; intro g' L' h' FG' F' N' B' X' T' hgk; (try dsimp only); (try k_fold))
  refine execsF_cutP (fun P9 hP9 => wpF_of ?_)
  k_steps
  refine stopF (hP9 _ ?_)
  refine execsF_cutP (fun P9 hP9 => ?_)
  k_dflt (refine assignF_name ?_)
  refine exprF_call ?_
  k_steps
  k_dflt (refine' callF_K (K := Tr.pre.heap_1_39 w.params) ?ka1 ?_ ?ka2 ?ka3; (case ka1 => k_is); (case ka2 => kernel_rfl!); (case ka3 => kernel_rfl!))
  k_steps
  k_dflt (refine' law_endT ?_ ?_ ?_ ?_ ?_ ?_ ?_ ?_ ?_ ?_ ?_ ?_ ?_ ?_ ?_ ?_ ?_; k_extra "data"; k_asm; k_asm; k_asm; k_asm; k_asm; (first | exact rfl | assumption); ktr_room; k_mem; (first | assumption | decide | omega); (first | assumption | decide | omega); (first | assumption | decide | omega); (first | assumption | decide | omega); (first | assumption | decide | omega); (first | assumption | decide | omega); (first | assumption | decide | omega); (first | assumption | decide | omega); intro tcb9 own9 h9 tk9 H9 O9 F9 N9)
  (try dsimp only [List.map] at O9)
  (try simp only [List.cons_append, List.nil_append] at N9)
  (try k_sweep)
  k_steps
  refine stopF (hP9 _ ?_)
  refine execsF_cutP (fun P9 hP9 => wpF_of ?_)
  k_steps
  refine stopF (hP9 _ ?_)
  refine execsF_cutP (fun P9 hP9 => wpF_of ?_)
  k_steps
  refine stopF (hP9 _ ?_)
  (with_reducible rename News _ _ _ _ => NX)
  have NY := news_none NX
  clear NX
  clear O9 H9
  refine execsF_cutP (fun P9 hP9 => ?_)
  k_dflt (first | refine assignF_swapped ?_ | refine assignF_tuple ?_)
  refine tupleF ?_
  refine argsF_cons ?_
  refine wpF_of ?_
  k_steps
  refine argsF_cons ?_
  refine exprF_call ?_
  k_steps
  k_dflt (refine' callF_K (K := Tr.pre.heap_1_39 w.params) ?kb1 ?_ ?kb2 ?kb3; (case kb1 => k_is); (case kb2 => kernel_rfl!); (case kb3 => kernel_rfl!))
  k_steps
  k_dflt (refine' law_endT ?_ ?_ ?_ ?_ ?_ ?_ ?_ ?_ ?_ ?_ ?_ ?_ ?_ ?_ ?_ ?_ ?_; k_extra "data"; k_asm; k_asm; k_asm; k_asm; k_asm; (first | exact rfl | assumption); ktr_room; k_mem; (first | assumption | decide | omega); (first | assumption | decide | omega); (first | assumption | decide | omega); (first | assumption | decide | omega); (first | assumption | decide | omega); (first | assumption | decide | omega); (first | assumption | decide | omega); (first | assumption | decide | omega); intro tcb9 own9 h9 tk9 H9 O9 F9 N9)
  (try dsimp only [List.map] at O9)
  (try simp only [List.cons_append, List.nil_append] at N9)
  (try k_sweep)
  refine wpF_of ?_
  k_steps
  refine stopF (hP9 _ ?_)
  refine execsF_cutP (fun P9 hP9 => wpF_of ?_)
  k_steps
  refine stopF (hP9 _ ?_)
  refine wpF_of ?_
  k_steps
  refine' hret _ _ (frame_end (g := g') (L' := L') (foot := []) ?zz1 ?zz2 (fun _ hq => nomatch hq) hgk).1 ?zz3
  case zz3 => k_asm
  case zz1 => assumption
  case zz2 => assumption
theorem told_W {w : World} {mean : ExcName → Option Value} {mg mb : Str → Option Value} {dp un : Nat} {gd : Option (List Code)} {cn : Str} {cs : Scope} {a : Addr} {ccd : Value} {cl : List (Str × Addr)} {outer : List Env} {A₀ : Around} {base h₀ : Heap} {L : Addr} {m : Str → Option Value} {s : Shared} {Q E : Value → Shared → Prop} {news : List (Addr × Obj)}
    (B : Below A₀ base outer h₀) (F : Fr h₀ L s.heap m) (X : (Tr.pre.heap_1_39 w.params).In h₀) (N : News h₀ L s.heap news)
    (T : Top Tr.pre.view_1_40 (looseW Tr.pre.view_1_40 [Str.ofString "Sender", Str.ofString "Tcb"]) mean mg mb h₀) (hk : cs.kind = .function) (hdp : dp + 25 < recursionLimit) (hun : un + 1100 < cLine)
    (hret : ∀ h' tk', Fr h₀ L h' m → News h₀ L h' news → Q (.bool true) { s with heap := h', toks := tk' }) :
    wpF (model Challenge.rw_xw0347_01.row.prog w) (ktrTop dp un gd cn cs L a ccd cl outer) (call (.ref 1106) []) Q E s :=
  told_ok dp un gd cn cs a ccd cl outer A₀ base h₀ L m s Q E B F X (fun _ hp => nomatch hp) T hk hdp hun (fun h' tk' kb F' => hret h' tk' F' (fun p hp => ⟨kb _ _ (N p hp).1 (fun h => nomatch h), (N p hp).2⟩))
end
-- T21
section
def StopI (p : Prop) : Prop := p
theorem stopI {p : Prop} (h : StopI p) : p := h
section
variable {prog : Program} {w : World} {A : Around} {E : Value → Shared → Prop} {s : Shared} {env : Env} {h₀ : Heap} {x : Str} {body : List Stmt} {Q : Flow → Shared → Prop}
theorem news_pick {h₀ h : Heap} {L : Addr} {big own : List (Addr × Obj)} {p1 p2 p3 p4 p5 : Addr × Obj} (N : News h₀ L h big) (h1 : p1 ∈ big) (h2 : p2 ∈ big) (h3 : p3 ∈ big) (h4 : p4 ∈ big) (h5 : p5 ∈ big) (ho : ∀ p ∈ own, p ∈ big) : News h₀ L h (p1 :: p2 :: p3 :: p4 :: p5 :: own) := fun p hp => by
  rcases List.mem_cons.mp hp with rfl | hp
  · exact N _ h1
  rcases List.mem_cons.mp hp with rfl | hp
  · exact N _ h2
  rcases List.mem_cons.mp hp with rfl | hp
  · exact N _ h3
  rcases List.mem_cons.mp hp with rfl | hp
  · exact N _ h4
  rcases List.mem_cons.mp hp with rfl | hp
  · exact N _ h5
  · exact N p (ho p hp)
noncomputable def mapTW (tcb wl : Addr) (u : Str → Option Value) : Str → Option Value := fun z => if z = Str.ofString "tcb" then some (.ref tcb) else if z = Str.ofString "wishes" then some (.ref wl) else u z
theorem mapTW_eq {tcb wl : Addr} {m : Str → Option Value} (h1 : m (Str.ofString "tcb") = some (.ref tcb)) (h2 : m (Str.ofString "wishes") = some (.ref wl)) : m = mapTW tcb wl m := by
  funext z
  unfold mapTW
  by_cases a : z = Str.ofString "tcb"
  · rw [if_pos a, a, h1]
  · rw [if_neg a]
    by_cases b : z = Str.ofString "wishes"
    · rw [if_pos b, b, h2]
    · rw [if_neg b]
noncomputable def ledT (AX wl I l c : Addr) (LO : Obj) (b0 b1 : Bool) (z2 : Int) (tz : Tok) (nl : Nat) (it oc : Obj) (x y : Int) (tx ty : Tok) (n : Nat) (own : List (Addr × Obj)) : List (Addr × Obj) := (AX, LO) :: (wl, listOf [.bool b0, .bool b1, .int z2 tz].toArray nl) :: (I, it) :: (l, listOf [.int x tx, .int y ty].toArray n) :: (c, oc) :: own
inductive JA (w : World) (tcb wl AX I l c : Addr) (LO : Obj) (b0 b1 : Bool) (z2 : Int) (tz : Tok) (nl : Nat) (it oc : Obj) (I' : Addr) (k : Nat) (m : Str → Option Value) (nw : List (Addr × Obj)) (x y : Int) (tx ty : Tok) (n : Nat) (own : List (Addr × Obj)) (u : Str → Option Value) (bd : Nat) : Prop where
  | mk (em : m = mapTW tcb wl u) (en : nw = ledT AX wl I l c LO b0 b1 z2 tz nl it oc x y tx ty n own) (H : TcbIs w b0 b1 z2 tcb own bd) (hb : bd + 4 * k ≤ 800) (O : OwnOff own [AX, wl, I, l, c, I']) (hx : 0 ≤ x) (hy : 0 ≤ y) (hy2 : y < 2147483647) : JA w tcb wl AX I l c LO b0 b1 z2 tz nl it oc I' k m nw x y tx ty n own u bd
inductive JR (c : Addr) (nw : List (Addr × Obj)) : Prop where
  | mk (l : Addr) (x y : Int) (tx ty : Tok) (n : Nat) (oc' : Obj) (e : nw = [(l, listOf [.int x tx, .int y ty].toArray n), (c, oc')]) (d : oc'.data = .cell (some (.ref l))) (ne : @Ne Nat l c) (hx : 0 ≤ x) (hy : 0 ≤ y) (hz : y < 2147483647) : JR c nw
inductive JG (l : Addr) (tl : List (Addr × Obj)) (k : Nat) (ys : List Value) (nw : List (Addr × Obj)) : Prop where
  | mk (x y : Int) (tx ty : Tok) (n : Nat) (H : nw = (l, listOf [.int x tx, .int y ty].toArray n) :: tl ∧ 0 ≤ x ∧ 0 ≤ y ∧ y < 2147483647) (hl : ys.length + k = 2) (hi : ∀ v ∈ ys, ∃ i t, v = Value.int i t ∧ 0 ≤ i) : JG l tl k ys nw
inductive JT (w : World) (tcb wl AX I l c : Addr) (LO : Obj) (b0 b1 : Bool) (z2 : Int) (tz : Tok) (nl : Nat) (it oc : Obj) (I' : Addr) (k : Nat) (m : Str → Option Value) (nw : List (Addr × Obj)) : Prop where
  | mk (x y : Int) (tx ty : Tok) (n : Nat) (own : List (Addr × Obj)) (u : Str → Option Value) (bd : Nat) (H : JA w tcb wl AX I l c LO b0 b1 z2 tz nl it oc I' k m nw x y tx ty n own u bd) : JT w tcb wl AX I l c LO b0 b1 z2 tz nl it oc I' k m nw
theorem start_gen {w : World} {h₀ h : Heap} {L tcb wl AX I l c : Addr} {LO0 : Obj} {b0 b1 : Bool} {z2 : Int} {tz : Tok} {nl : Nat} {it oc src : Obj} {own : List (Addr × Obj)}
    (N : News h₀ L h ((AX, LO0) :: (wl, listOf [.bool b0, .bool b1, .int z2 tz].toArray nl) :: (I, it) :: (l, src) :: (c, oc) :: own)) (H : TcbIs w b0 b1 z2 tcb own 0) :
    ∃ LO c0 c1 z, LO = LO0 ∧ News h₀ L h ((AX, LO) :: (wl, listOf [.bool c0, .bool c1, .int z tz].toArray nl) :: (I, it) :: (l, src) :: (c, oc) :: own) ∧ TcbIs w c0 c1 z tcb own 0 := ⟨_, _, _, _, rfl, N, H⟩
theorem JT.start {w : World} {h₀ h : Heap} {L tcb wl AX I l c : Addr} {LO : Obj} {b0 b1 : Bool} {z2 : Int} {tz : Tok} {nl : Nat} {it oc : Obj} {I' : Addr} {m : Str → Option Value} {x y : Int} {tx ty : Tok} {n : Nat} {own : List (Addr × Obj)}
    (_N : News h₀ L h ((AX, LO) :: (wl, listOf [.bool b0, .bool b1, .int z2 tz].toArray nl) :: (I, it) :: (l, listOf [.int x tx, .int y ty].toArray n) :: (c, oc) :: own)) (_F : Fr h₀ L h m) (ht : m (Str.ofString "tcb") = some (.ref tcb)) (hw : m (Str.ofString "wishes") = some (.ref wl))
    (H : TcbIs w b0 b1 z2 tcb own 0) (O : OwnOff own [AX, wl, I, l, c]) (hI : AllLt I' own) (hx : 0 ≤ x) (hy : 0 ≤ y) (hy2 : y < 2147483647) : JT w tcb wl AX I l c LO b0 b1 z2 tz nl it oc I' 11 m ((AX, LO) :: (wl, listOf [.bool b0, .bool b1, .int z2 tz].toArray nl) :: (I, it) :: (l, listOf [.int x tx, .int y ty].toArray n) :: (c, oc) :: own) :=
  ⟨x, y, tx, ty, n, own, m, 0, mapTW_eq ht hw, rfl, H, by decide, fun p hp b hb => by
    rcases List.mem_cons.mp hb with rfl | hb
    · exact O p hp _ (.head _)
    rcases List.mem_cons.mp hb with rfl | hb
    · exact O p hp _ (.tail _ (.head _))
    rcases List.mem_cons.mp hb with rfl | hb
    · exact O p hp _ (.tail _ (.tail _ (.head _)))
    rcases List.mem_cons.mp hb with rfl | hb
    · exact O p hp _ (.tail _ (.tail _ (.tail _ (.head _))))
    rcases List.mem_cons.mp hb with rfl | hb
    · exact O p hp _ (.tail _ (.tail _ (.tail _ (.tail _ (.head _)))))
    · rw [List.mem_singleton.mp hb]; exact Nat.ne_of_lt (ktn_ltOf hI p hp), hx, hy, hy2⟩
theorem news_pick4 {h₀ h : Heap} {L : Addr} {big : List (Addr × Obj)} {p1 p2 p3 p4 : Addr × Obj} (N : News h₀ L h big) (h1 : p1 ∈ big) (h2 : p2 ∈ big) (h3 : p3 ∈ big) (h4 : p4 ∈ big) : News h₀ L h [p1, p2, p3, p4] := fun p hp => by
  rcases List.mem_cons.mp hp with rfl | hp
  · exact N _ h1
  rcases List.mem_cons.mp hp with rfl | hp
  · exact N _ h2
  rcases List.mem_cons.mp hp with rfl | hp
  · exact N _ h3
  rcases List.mem_cons.mp hp with rfl | hp
  · exact N _ h4
  exact nomatch hp
theorem wpF_gen {α : Type} {M : Model} {A : Around} {t : Sem α} {Q : α → Shared → Prop} {E : Value → Shared → Prop} {s : Shared} (h : ∀ P : α → Shared → Prop, (∀ f s, Q f s → P f s) → wpF M A t P E s) : wpF M A t Q E s := h Q (fun _ _ x => x)
theorem wpAny_gen {α : Type} {M : Model} {A : Around} {t : Sem α} {Q : α → Shared → Prop} {E : Value → Shared → Prop} {s : Shared} (h : ∀ P : α → Shared → Prop, (∀ f s, Q f s → P f s) → wpAny M A t P E s) : wpAny M A t Q E s := h Q (fun _ _ x => x)
theorem list_rest {I : Addr} {lp : Addr × Obj} (J : Nat → (Str → Option Value) → List (Addr × Obj) → Prop) (lpin : ∀ k m nw, J k m nw → lp ∈ nw)
    (turn : ∀ k v it m nw h tk, J (k + 1) m nw → it.cls = .type "list_iterator" → (∃ st t, v = .str st t) → Fr h₀ env.locals h (fun y => if y = x then some v else m y) → News h₀ env.locals h ((I, it) :: nw) →
      wpAny (model prog w) A (execs body env) (fun f s₃ => match f with
        | .ret v => Q (.ret v) s₃
        | .brk => Q .next s₃
        | _ => UnrEnd h₀ env.locals { s with heap := h, toks := tk } I it (J k) s₃) E { s with heap := h, toks := tk })
    (done : ∀ m nw h tk, J 0 m nw → Fr h₀ env.locals h m → News h₀ env.locals h nw → Q .next { s with heap := h, toks := tk }) :
    ∀ (vs : List Value) m nw, (∀ v ∈ vs, ∃ st t, v = .str st t) → J vs.length m nw → ListRest prog w A E h₀ env x body Q s I lp vs m nw
  | [], m, nw, _, hJ => fun h tk F N => done m nw h tk hJ F N
  | v :: r, m, nw, hv, hJ => fun it h tk hc F N => by
    refine wpAny_mono (turn r.length v it m nw h tk hJ hc (hv v (.head _)) F N) (fun f s₃ h₃ => ?_) fun _ _ e => e
    cases f with
    | ret v => exact h₃
    | brk => exact h₃
    | next =>
      obtain ⟨h', tk', m', nw', rfl, F', N', off, hJ'⟩ := h₃
      exact ⟨h', tk', m', nw', rfl, F', N', off, lpin _ _ _ hJ', list_rest J lpin turn done r m' nw' (fun v hv' => hv v (.tail _ hv')) hJ'⟩
    | cont =>
      obtain ⟨h', tk', m', nw', rfl, F', N', off, hJ'⟩ := h₃
      exact ⟨h', tk', m', nw', rfl, F', N', off, lpin _ _ _ hJ', list_rest J lpin turn done r m' nw' (fun v hv' => hv v (.tail _ hv')) hJ'⟩
end
theorem execs_mid {M : Model} {A : Around} {E : Value → Shared → Prop} {s : Shared} {env : Env} {st : Stmt} {rest : List Stmt} {Q : Flow → Shared → Prop} {g h : Heap} {L : Addr} {m : Str → Option Value} (_F : Fr g L h m) (Mid : (Str → Option Value) → Shared → Prop) (hc : wpAny M A (exec st env) (fun f s' => StopF f (Mid m s')) E s) (hk : ∀ s', Mid m s' → wpAny M A (execs rest env) Q E s') : wpAny M A (execs (st :: rest) env) Q E s :=
  wpAny_execs_cons (wpAny_mono hc (fun f s' h' => by obtain ⟨rfl, h'⟩ := h'; exact hk s' h') fun _ _ x => x)
theorem execs_midP {M : Model} {A : Around} {E : Value → Shared → Prop} {s : Shared} {env : Env} {st : Stmt} {rest : List Stmt} {Q : Flow → Shared → Prop} {g h : Heap} {L : Addr} {m : Str → Option Value} (F : Fr g L h m) (Mid : (Str → Option Value) → Shared → Prop) (hc : ∀ P : Shared → Prop, (∀ s', Mid m s' → P s') → wpAny M A (exec st env) (fun f s' => StopF f (P s')) E s) (hk : ∀ s', Mid m s' → wpAny M A (execs rest env) Q E s') : wpAny M A (execs (st :: rest) env) Q E s :=
  execs_mid F Mid (hc _ (fun _ x => x)) hk
theorem comp_inv {prog : Program} {w : World} {A : Around} {h₀ : Heap} {L : Addr} {m : Str → Option Value} {env : Env} {elt : PySem.Expr} {x : Str} {scope : Scope} {cl : List (Str × Addr)} {s : Shared} {P : Nat → Value → Prop} {Fin : List Value → List (Addr × Obj) → Prop} (G : Nat → List Value → List (Addr × Obj) → Prop)
    (turn : ∀ k v I oI C oC D m₂ h tk (E' : Value → Shared → Prop) ys nw, LCg.NsObj oC m₂ → m₂ x = some v → Fr h₀ L h m → News h₀ L h ((I, oI) :: (C, oC) :: (D, LCg.lst ys) :: nw) → LCg.Off3 I C D nw → ((@Ne Nat I C) ∧ (@Ne Nat I D) ∧ (@Ne Nat C D)) → G (k + 1) ys nw →
      wpAny (model prog w) A (eval elt (compEnvC scope cl C env)) (LCg.CompEnd h₀ L m { s with heap := h, toks := tk } I oI C oC D (LCg.lst ys) (fun _ => True) (fun y nw' => G k (ys ++ [y]) nw')) E' { s with heap := h, toks := tk })
    (fin : ∀ ys nw, G 0 ys nw → Fin ys nw) : ∀ k i ys nw, G k ys nw → LCg.CompRest prog w A h₀ L m env elt x scope cl s (fun _ => True) P Fin k i ys nw
  | 0, _, ys, nw, h => fin ys nw h
  | k + 1, i, ys, nw, h => fun v I oI C oC D m₂ hh tk E' _ hC hx F N off ne => by
    refine wpAny_mono (turn k v I oI C oC D m₂ hh tk E' ys nw hC hx F N off ne h) (fun y s' h' => ?_) fun _ _ e => e
    obtain ⟨h', tk', nw', e, F', N', off', hS, r⟩ := h'
    exact ⟨h', tk', nw', e, F', N', off', hS, comp_inv G turn fin k (i + 1) _ _ r⟩
theorem two_ints {ys : List Value} (h : ys.length + 0 = 2) (h2 : ∀ v ∈ ys, ∃ i t, v = .int i t ∧ 0 ≤ i) : ∃ a t b u, ys = [.int a t, .int b u] ∧ 0 ≤ a ∧ 0 ≤ b := by
  cases ys with
  | nil => exact absurd h (by decide)
  | cons v ys => cases ys with
    | nil => exact absurd h (by simp)
    | cons w ys => cases ys with
      | nil =>
        obtain ⟨a, t, rfl, ha⟩ := h2 v (.head _)
        obtain ⟨b, u, rfl, hb⟩ := h2 w (.tail _ (.head _))
        exact ⟨a, t, b, u, rfl, ha, hb⟩
      | cons z ys => exact absurd h (by simp)
theorem ints_more {ys : List Value} {i : Int} {t : Tok} (h : ∀ v ∈ ys, ∃ i t, v = .int i t ∧ 0 ≤ i) (hi : 0 ≤ i) : ∀ v ∈ ys ++ [.int i t], ∃ i t, v = Value.int i t ∧ 0 ≤ i := fun v hv => by
  rcases List.mem_append.mp hv with hv | hv
  · exact h v hv
  · rw [List.mem_singleton.mp hv]; exact ⟨i, t, rfl, hi⟩
theorem gen_tl {h₀ h : Heap} {L : Addr} {a : Addr × Obj} {tl0 : List (Addr × Obj)} (N : News h₀ L h (a :: tl0)) : ∃ tl, tl = tl0 ∧ News h₀ L h (a :: tl) := ⟨_, rfl, N⟩
theorem mem_ltB {p : Addr × Obj} {l : List (Addr × Obj)} (h : p ∈ l) : List.Mem p l := h
local macro_rules | `(tactic| k_mem) => `(tactic| (refine mem_ltB ?_; with_reducible assumption))
local macro_rules | `(tactic| walk_at "pyIter ref") => `(tactic| ((with_reducible show wpAny _ _ (pyIter (Value.ref _)) (fun it s₂ => LoopAtV _ _ _ _ _ _ _ _ _ it s₂) _ _); refine stopI ?_))
theorem one_rng {k : Int} {ns : List Int} (h : k ∈ ns) (e : (ns.all fun a => decide (0 ≤ a) && decide (a ≤ ns.foldl max 0)) = true) : 0 ≤ k ∧ k ≤ ns.foldl max 0 := by
  have := List.all_eq_true.mp e k h
  simpa using this
set_option maxRecDepth 100000 in
set_option maxHeartbeats 8000000 in
theorem law_F {w : World} {mean : ExcName → Option Value} {mg mb : Str → Option Value} {d : DefRec} {kwd : List (Str × Expr)} (hdef : defOf Tr.pre.view_1_40 (Str.ofString "law") = some (d, kwd))
    {h₀ h₁ : Heap} {fa : Addr} {cd : Value} {sa : Addr} {items : List Value} {ns : List Int} {oc : Obj} {s : Shared} {tk : Nat} {Q : Flow → Shared → Prop} {E : Value → Shared → Prop}
    (B : Below callerA h₀ [] h₀) (F : Fr h₀ h₀.objs.size h₁ (fun y => if y = Str.ofString "script" then some (.ref sa) else none)) (N : News h₀ h₀.objs.size h₁ [(h₀.objs.size + 1, oc)]) (dc : oc.data = .cell none)
    (X : (Tr.pre.heap_1_39 w.params).In h₀) (T : Top Tr.pre.view_1_40 (looseW Tr.pre.view_1_40 [Str.ofString "Sender", Str.ofString "Tcb"]) mean mg mb h₀) (hL : h₀.IsList sa items.toArray) (hI : IntsAre items ns) (hlen : ns.length ≤ 63)
    (hret : ∀ u h' tk', Fr h₀ h₀.objs.size h' u → Q (.ret (.bool true)) { s with heap := h', toks := tk' }) :
    wpF (model Challenge.rw_xw0347_01.row.prog w) (callerA.deeper (envOfC d.name d.scope h₀.objs.size fa cd)) (execs d.body (envOfC d.name d.scope h₀.objs.size fa cd)) Q E { s with heap := h₁, toks := tk } := by
  k_with_none
  k_with "data" => ((repeat ((fail_if_success (refine Classical.byContradiction ?_)); rotate_left)))
  k_with "callWith ref" => ((k_here; k_dflt (refine' callWith_K ?_ ?_ ?_ ?_ ?_; k_extra "data"; (with_reducible assumption); k_is; rotate_left; kernel_rfl!; kernel_rfl!); k_whole))
  k_with "callWith ref" => ((k_here; (with_reducible show wpAny _ _ (callWith _ _ _ (backTo _ (starEach [] _)) []) _ _ _); (with_reducible rename Fr _ _ _ _ => kF); k_dflt (refine' callWith_K0 (Frag.In.keeps ?_ (Fr.keep kF)) ?_ ?_; k_extra "data"; (with_reducible assumption); k_is); k_whole))
  k_with "CompSrc" => ((refine stopI ?_))
  k_with "call ref" => ((k_here; (with_reducible show wpAny _ _ (call (Value.ref 1099) _) _ _ _); k_dflt (refine' wishes_ok _ _ _ _ _ _ _ _ _ _ _ _ _ _ _ _ _ _ _ _ _ _ _ _ _ _ _ _ _ _ _ _ ?_ ?_ ?_ ?_ ?_ ?_ ?_ ?_ ?_ ?_ ?_ ?_ ?_; k_extra "data"; k_asm; k_asm; k_asm; k_asm; k_asm; (first | exact rfl | assumption); ktr_room; k_mem; (first | assumption | decide | omega); (first | assumption | decide | omega); (first | assumption | decide | omega); (first | assumption | decide | omega); intro wl9 bb0 bb1 zz2 tz9 nl9 h9 tk9 l1 e0 e1 e2 F9 N9); (subst e0 e1 e2); (try k_lt l1); (try k_sweep)))
  k_with "call ref" => ((k_here; (with_reducible show wpAny _ _ (call (Value.ref 1092) _) _ _ _); k_dflt (refine' state_rightT ?_ ?_ ?_ ?_ ?_ ?_ ?_ ?_ ?_ ?_ ?_ ?_ ?_ ?_ ?_ ?_ ?_ ?_ ?_; k_extra "data"; k_asm; k_asm; k_asm; k_asm; k_asm; (first | exact rfl | assumption); ktr_room; (first | assumption | ((try dsimp only [ktrTop]); first | decide | omega)); assumption; (first | exact Spl.nil | exact (Spl.cons Spl.nil) | exact (Spl.cons (Spl.cons Spl.nil)) | exact (Spl.cons (Spl.cons (Spl.cons Spl.nil))) | exact (Spl.cons (Spl.cons (Spl.cons (Spl.cons Spl.nil)))) | exact (Spl.cons (Spl.cons (Spl.cons (Spl.cons (Spl.cons Spl.nil))))) | exact (Spl.cons (Spl.cons (Spl.cons (Spl.cons (Spl.cons (Spl.cons Spl.nil)))))) | exact (Spl.cons (Spl.cons (Spl.cons (Spl.cons (Spl.cons (Spl.cons (Spl.cons Spl.nil))))))) | exact (Spl.cons (Spl.cons (Spl.cons (Spl.cons (Spl.cons (Spl.cons (Spl.cons (Spl.cons Spl.nil))))))))); k_mem; k_mem; (dsimp only [List.map]; ((repeat' (first | exact own_nil | refine own_cons ?_ ?_)) <;> (first | (refine ne_lo0 (ktn_ltOf ?_); tbn_find) | exact (fun p hp => O9 p hp _ (by first | exact .head _ | exact .tail _ (.head _) | exact .tail _ (.tail _ (.head _)) | exact .tail _ (.tail _ (.tail _ (.head _))) | exact .tail _ (.tail _ (.tail _ (.tail _ (.head _)))) | exact .tail _ (.tail _ (.tail _ (.tail _ (.tail _ (.head _))))) | exact .tail _ (.tail _ (.tail _ (.tail _ (.tail _ (.tail _ (.head _)))))) | exact .tail _ (.tail _ (.tail _ (.tail _ (.tail _ (.tail _ (.tail _ (.head _))))))) | exact .tail _ (.tail _ (.tail _ (.tail _ (.tail _ (.tail _ (.tail _ (.tail _ (.head _)))))))) | exact .tail _ (.tail _ (.tail _ (.tail _ (.tail _ (.tail _ (.tail _ (.tail _ (.tail _ (.head _)))))))))))))); (first | assumption | decide | omega); (first | assumption | decide); (first | assumption | decide); (first | assumption | decide); (first | assumption | decide); intro own9 h9 tk9 H9 O9 F9 N9); (try dsimp only [List.map] at O9); (try simp only [List.cons_append, List.nil_append] at N9); (try k_sweep)))
  k_with "call ref" => ((k_here; (with_reducible show wpAny _ _ (call (Value.ref 1066) _) _ _ _); k_dflt (refine' takeW _ _ _ _ _ _ _ _ _ _ _ _ _ _ _ _ _ _ _ _ _ _ _ _ _ _ _ ?_ ?_ ?_ ?_ ?_ ?_ ?_ ?_ ?_ ?_ ?_ ?_ ?_ ?_; k_extra "data"; k_asm; k_asm; k_asm; k_asm; k_asm; (first | exact rfl | assumption); ktr_room; k_updF; (first | assumption | decide); (first | assumption | decide); (first | assumption | decide); (first | assumption | decide); (first | assumption | decide); intro kt9 tkt9 x9 y9 tx9 ty9 n9 h9 tk9 hk1 hk2 hx9 hy9 hy9b F9 N9); (try k_sweep); (try dsimp only); (try k_fold)))
  k_with "call ref" => ((k_here; (with_reducible show wpAny _ _ (call (Value.ref 1073) _) _ _ _); k_dflt (refine' one_ok _ _ _ _ _ _ _ _ _ _ _ _ _ _ _ _ _ _ _ _ _ _ _ _ _ _ _ _ _ ?_ ?_ ?_ ?_ ?_ ?_ ?_ ?_ ?_ ?_ ?_ ?_ ?_ ?_ ?_ ?_ ?_; k_extra "data"; k_asm; k_asm; k_asm; k_asm; k_asm; (first | exact rfl | assumption); ktr_room; k_updF; k_mem; (intro o; k_mem); (first | exact (.cons _ _ (.cons _ _ (.cons _ _ (.cons _ _ .nil)))) | exact (.cons _ _ (.cons _ _ (.cons _ _ (.cons _ _ (.cons _ _ .nil))))) | exact (.cons _ _ (.cons _ _ (.cons _ _ (.cons _ _ (.cons _ _ (.cons _ _ (.cons _ _ .nil)))))))); (first | assumption | decide); (first | assumption | decide); (first | assumption | decide); (dsimp only [List.length]; decide); (dsimp only [List.length]; decide); intro kt9 tkt9 x9 y9 tx9 ty9 n9 h9 tk9 hk1 hx9 hy9 hy9b F9 N9); (obtain ⟨ho1, ho2⟩ := one_rng hk1 (by decide)); (clear hk1); (try k_sweep); (try dsimp only); (try k_fold)))
  k_with "call ref" => ((k_here; (with_reducible show wpAny _ _ (call (Value.ref 1059) _) _ _ _); k_dflt (refine' pool_ok _ _ _ _ _ _ _ _ _ _ _ _ _ _ _ _ _ _ _ _ _ ?_ ?_ ?_ ?_ ?_ ?_ ?_ ?_ ?_ ?_ ?_ ?_; k_extra "data"; k_asm; k_asm; k_asm; k_asm; k_asm; (first | exact rfl | assumption); ktr_room; assumption; assumption; assumption; (first | assumption | ((try dsimp only [ktrTop]); first | decide | omega)); intro pl9 x9 y9 tx9 ty9 n9 h9 tk9 l1 hx9 hy9 hy9b F9 N9); (try simp only [AllLt, and_true] at l1); (try k_sweep); (try dsimp only); (try k_fold)))
  have e : defOf Tr.pre.view_1_40 (Str.ofString "law") = some (⟨Str.ofString "law", _, _, _, _⟩, []) := rfl
  rw [e] at hdef
  cases hdef
  clear e
  revert X; k_fill; intro X
  (try dsimp only)
  (try k_fold)
  refine execsF_cutP (fun P9 hP9 => ?_)
  k_dflt (refine ifF ?_)
  refine notF ?_
  k_dflt (refine plainF ?_)
  refine exprF_call ?_
  k_steps
  k_dflt (refine' callF_K0 ?ta1 ?ta2 ?_; (case ta1 => exact X.keeps F.keep); (case ta2 => k_is))
  k_dflt (refine' told_W ?_ ?_ ?_ ?_ ?_ ?_ ?_ ?_ ?_; k_extra "data"; k_asm; k_asm; k_asm; k_asm; k_asm; (first | exact rfl | assumption); ktr_room; (first | assumption | ((try dsimp only [ktrTop]); decide)); intro h9 tk9 F9 N9)
  (try k_sweep)
  k_steps
  refine wpF_of ?_
  k_steps
  refine stopF (hP9 _ ?_)
  (try clear hP9)
  refine execsF_cutP (fun P9 hP9 => wpF_of ?_)
  k_steps
  refine stopF (hP9 _ ?_)
  (try clear hP9)
  refine execsF_cutP (fun P7 hP7 => ?_)
  k_dflt (refine forF ?_)
  k_steps
  (with_reducible rename IsRange _ _ _ _ _ _ _ _ => rgX)
  (with_reducible rename Fr _ _ _ _ => lF')
  (with_reducible rename News _ _ _ _ => lN')
  refine forF_range (n := 2) (fun _ _ nw => JR (h₀.objs.size + 1) nw) rfl rfl rfl rgX (by decide) (by decide) lF' lN' ⟨_, _, _, _, _, _, _, rfl, by assumption, Nat.ne_of_gt l1, by assumption, by assumption, by assumption⟩ ?_ ?_
  rotate_left
  · rintro m' news' h tk ⟨l, x, y, tx, ty, n, oc', rfl, dc', d0, hx, hy, hy2⟩ F N
    refine stopF (hP7 _ ?_)
    refine wpF_of ?_
    k_steps
    exact hret _ _ _ (by k_asm)
  rintro E' i t I it m₁ news₁ h tk hi ⟨l, x, y, tx, ty, n, oc', rfl, dc', d0, hx, hy, hy2⟩ off F N
  have d1 : @Ne Nat l I := off _ (.head _)
  have d2 : @Ne Nat (h₀.objs.size + 1) I := off _ (.tail _ (.head _))
  clear hi off
  refine wpF_mono (E := fun _ _ => False) ?_ (fun _ _ h => h) (fun _ _ h => h.elim)
  clear E'
  refine wpF_gen (fun PT hPT => ?_)
  clear rgX l1
  refine execsF_midP (by assumption : Fr h₀ _ _ _) (fun mm s' => (∀ R9 : Prop, (∀ (syn fin : Bool) (x y : Int) (tx ty : Tok) (n : Nat) (h : Heap) (tk : Nat), (0 ≤ x ∧ 0 ≤ y ∧ y < 2147483647) → s' = { s with heap := h, toks := tk } → Fr h₀ h₀.objs.size h (fun z => if z = Str.ofString "has_syn" then some (.bool syn) else if z = Str.ofString "has_fin" then some (.bool fin) else mm z) → News h₀ h₀.objs.size h [(I, it), (l, listOf [.int x tx, .int y ty].toArray n), (h₀.objs.size + 1, oc')] → R9) → R9)) ?_ ?_
  · intro P9 hP9
    k_steps
    refine stopF (hP9 _ ?_)
    intro R9 k9; refine' k9 _ _ _ _ _ _ _ _ _ ⟨?zm1, ?zm2, ?zm3⟩ rfl ?zmF ?zmN
    case zmN => refine' news_sub0 ?zmq ?zmqs; (case zmq => k_asm); (case zmqs => exact fun p hp => by repeat (first | exact hp | refine .tail _ ?_))
    case zmF => k_asm
    case zm1 => assumption
    case zm2 => assumption
    case zm3 => assumption
  clear hx hy hy2 F N
  rintro s' M9; refine M9 _ ?_; clear M9; rintro syn fin x y tx ty n h tk ⟨hx, hy, hy2⟩ rfl F N
  refine execsF_midP (by assumption : Fr h₀ _ _ _) (fun mm s' => (∀ R9 : Prop, (∀ (gone rest : Int) (tg tr : Tok) (x y : Int) (tx ty : Tok) (n : Nat) (h : Heap) (tk : Nat), (0 ≤ gone ∧ gone ≤ 8 ∧ 0 ≤ rest ∧ rest ≤ 8 ∧ 0 ≤ x ∧ 0 ≤ y ∧ y < 2147483647) → s' = { s with heap := h, toks := tk } → Fr h₀ h₀.objs.size h (fun z => if z = Str.ofString "gone" then some (.int gone tg) else if z = Str.ofString "rest" then some (.int rest tr) else mm z) → News h₀ h₀.objs.size h [(I, it), (l, listOf [.int x tx, .int y ty].toArray n), (h₀.objs.size + 1, oc')] → R9) → R9)) ?_ ?_
  · intro P9 hP9
    k_steps
    · refine stopF (hP9 _ ?_)
      intro R9 k9; refine' k9 _ _ _ _ _ _ _ _ _ _ _ ⟨?za1, ?za2, ?za3, ?za4, ?za5, ?za6, ?za7⟩ rfl ?zaF ?zaN
      case zaN => refine' news_sub0 ?zaq ?zaqs; (case zaq => k_asm); (case zaqs => exact fun p hp => by repeat (first | exact hp | refine .tail _ ?_))
      case zaF => k_asm
      case za1 => omega
      case za2 => omega
      case za3 => omega
      case za4 => omega
      case za5 => assumption
      case za6 => assumption
      case za7 => assumption
    · refine stopF (hP9 _ ?_)
      intro R9 k9; refine' k9 _ _ _ _ _ _ _ _ _ _ _ ⟨?zb1, ?zb2, ?zb3, ?zb4, ?zb5, ?zb6, ?zb7⟩ rfl ?zbF ?zbN
      case zbN => refine' news_sub0 ?zbq ?zbqs; (case zbq => k_asm); (case zbqs => exact fun p hp => by repeat (first | exact hp | refine .tail _ ?_))
      case zbF => k_asm
      case zb1 => exact ho1
      case zb2 => exact Int.le_trans ho2 (by decide)
      case zb3 => omega
      case zb4 => omega
      case zb5 => assumption
      case zb6 => assumption
      case zb7 => assumption
  clear hx hy hy2 F N
  rintro s' M9; refine M9 _ ?_; clear M9; rintro gone rest tg tr x y tx ty n h tk ⟨hg0, hg1, hr0, hr1, hx, hy, hy2⟩ rfl F N
  refine execsF_midP (by assumption : Fr h₀ _ _ _) (fun mm s' => (∀ R9 : Prop, (∀ (w1 : Int) (tw1 : Tok) (x y : Int) (tx ty : Tok) (n : Nat) (h : Heap) (tk : Nat), (0 ≤ w1 ∧ 0 ≤ x ∧ 0 ≤ y ∧ y < 2147483647) → s' = { s with heap := h, toks := tk } → Fr h₀ h₀.objs.size h (fun z => if z = Str.ofString "least" then some (.int w1 tw1) else mm z) → News h₀ h₀.objs.size h [(I, it), (l, listOf [.int x tx, .int y ty].toArray n), (h₀.objs.size + 1, oc')] → R9) → R9)) ?_ ?_
  · intro P9 hP9
    k_steps
    refine stopF (hP9 _ ?_)
    intro R9 k9; refine' k9 _ _ _ _ _ _ _ _ _ ⟨?zn0, ?zn1, ?zn2, ?zn3⟩ rfl ?znF ?znN
    case znN => refine' news_sub0 ?znq ?znqs; (case znq => k_asm); (case znqs => exact fun p hp => by repeat (first | exact hp | refine .tail _ ?_))
    case znF => k_asm
    case zn0 => assumption
    case zn1 => assumption
    case zn2 => assumption
    case zn3 => assumption
  clear hx hy hy2 F N
  rintro s' M9; refine M9 _ ?_; clear M9; rintro w1 tw1 x y tx ty n h tk ⟨hw1, hx, hy, hy2⟩ rfl F N
  refine execsF_midP (by assumption : Fr h₀ _ _ _) (fun mm s' => (∀ R9 : Prop, (∀ (wn : Addr) (w0 : Int) (tw0 tw9 : Tok) (nwn : Nat) (tries : Int) (tt : Tok) (x y : Int) (tx ty : Tok) (n : Nat) (h : Heap) (tk : Nat), ((0 ≤ w0 ∧ w1 ≤ w0 ∧ (tries = 0 ∨ tries = 1 ∨ tries = 2)) ∧ 0 ≤ x ∧ 0 ≤ y ∧ y < 2147483647) → s' = { s with heap := h, toks := tk } → Fr h₀ h₀.objs.size h (fun z => if z = Str.ofString "windows" then some (.ref wn) else if z = Str.ofString "tries" then some (.int tries tt) else mm z) → News h₀ h₀.objs.size h [(wn, (⟨.type "tuple", none, .seq [.int w0 tw0, .int w1 tw9].toArray nwn, #[]⟩ : Obj)), (I, it), (l, listOf [.int x tx, .int y ty].toArray n), (h₀.objs.size + 1, oc')] → R9) → R9)) ?_ ?_
  · intro P9 hP9
    k_steps
    refine stopF (hP9 _ ?_)
    intro R9 k9; refine' k9 _ _ _ _ _ _ _ _ _ _ _ _ _ _ ⟨⟨?zo4, ?zo5, ?zo6⟩, ?zo1, ?zo2, ?zo3⟩ rfl ?zoF ?zoN
    case zoF => k_asm
    case zoN => refine' news_pick4 ?zoq ?zos1 ?zos2 ?zos3 ?zos4; (case zoq => k_asm); (case zos1 => k_mem); (case zos2 => k_mem); (case zos3 => k_mem); (case zos4 => k_mem)
    case zo1 => assumption
    case zo2 => assumption
    case zo3 => assumption
    case zo4 => omega
    case zo5 => omega
    case zo6 => omega
  clear hx hy hy2 F N
  rintro s' M9; refine M9 _ ?_; clear M9; rintro wn w0 tw0 tw9 nwn tries tt x y tx ty n h tk ⟨⟨hw0, hww, htr⟩, hx, hy, hy2⟩ rfl F N
  refine execsF_cutP (fun P9 hP9 => wpF_of ?_)
  k_steps
  refine stopF (hP9 _ ?_)
  (try clear hP9)
  refine execsF_cutP (fun P9 hP9 => ?_)
  k_dflt (refine assignF_name ?_)
  refine exprF_call ?_
  k_steps
  k_dflt (refine' callF_K (K := Tr.pre.heap_1_39 w.params) ?kc1 ?_ ?kc2 ?kc3; (case kc1 => k_is); (case kc2 => kernel_rfl!); (case kc3 => kernel_rfl!))
  k_steps
  k_dflt (refine' law_endT ?_ ?_ ?_ ?_ ?_ ?_ ?_ ?_ ?_ ?_ ?_ ?_ ?_ ?_ ?_ ?_ ?_; k_extra "data"; k_asm; k_asm; k_asm; k_asm; k_asm; (first | exact rfl | assumption); ktr_room; k_mem; (first | assumption | decide | omega); (first | assumption | decide | omega); (first | assumption | decide | omega); (first | assumption | decide | omega); (first | assumption | decide | omega); (first | assumption | decide | omega); (first | assumption | decide | omega); (first | assumption | decide | omega); intro tcb9 own9 h9 tk9 H9 O9 F9 N9)
  (try dsimp only [List.map] at O9)
  (try simp only [List.cons_append, List.nil_append] at N9)
  (try k_sweep)
  k_steps
  refine stopF (hP9 _ ?_)
  (try clear hP9)
  refine execsF_cutP (fun P9 hP9 => wpF_of ?_)
  k_steps
  refine stopF (hP9 _ ?_)
  (try clear hP9)
  refine execsF_cutP (fun P8 hP8 => wpF_of ?_)
  (with_reducible rename Fr _ _ _ _ => lF4)
  with_unfolding_all refine' For_invVF lF4 ?zk1 ?zk2 ?_
  case zk1 => exact rfl
  case zk2 => exact rfl
  k_steps
  rename_i AX hAX FAX NAX lAX
  unfold StopI
  simp only [AllLt, and_true] at l1
  have NS0 := news_pick (p1 := (AX, _)) (p2 := (wl9, _)) (p3 := (I, it)) (p4 := (l, _)) (p5 := (h₀.objs.size + 1, oc')) (own := own9) NAX (by k_mem) (by k_mem) (by k_mem) (by k_mem) (by k_mem) (fun p hp => by repeat (first | exact hp | refine .tail _ ?_))
  have e1 : @Ne Nat l AX := by omega
  have e2 : @Ne Nat l wl9 := by omega
  have e3 : @Ne Nat wl9 AX := by omega
  have oA : OwnOff own9 [AX, wl9, I, l, h₀.objs.size + 1] := by ((repeat' (first | exact own_nil | refine own_cons ?_ ?_)) <;> (first | (refine ne_lo0 (ktn_ltOf ?_); tbn_find) | exact (fun p hp => O9 p hp _ (by first | exact .head _ | exact .tail _ (.head _) | exact .tail _ (.tail _ (.head _)) | exact .tail _ (.tail _ (.tail _ (.head _))) | exact .tail _ (.tail _ (.tail _ (.tail _ (.head _)))) | exact .tail _ (.tail _ (.tail _ (.tail _ (.tail _ (.head _))))) | exact .tail _ (.tail _ (.tail _ (.tail _ (.tail _ (.tail _ (.head _)))))) | exact .tail _ (.tail _ (.tail _ (.tail _ (.tail _ (.tail _ (.tail _ (.head _))))))) | exact .tail _ (.tail _ (.tail _ (.tail _ (.tail _ (.tail _ (.tail _ (.tail _ (.head _)))))))) | exact .tail _ (.tail _ (.tail _ (.tail _ (.tail _ (.tail _ (.tail _ (.tail _ (.tail _ (.head _)))))))))))))
  obtain ⟨LO, c0, c1, z2, hLO, NS, H10⟩ := start_gen NS0 H9
  clear NS0 H9
  refine iter_listUnr rfl FAX NS (.head _) (by rw [hLO]) (by rw [hLO]) (fun I' lI' => ?_)
  have hI' := allLt_of lI'
  simp only [AllLt, and_true] at hI'
  have J0 := JT.start (I' := I') NS FAX rfl rfl H10 oA (by tbn_find) (by assumption) (by assumption) (by assumption)
  refine list_rest _ ?_ ?_ ?_ _ _ _ ?_ J0
  · rintro k m nw ⟨x, y, tx, ty, n, own, u, bd, ⟨_, rfl, _⟩⟩
    exact .head _
  · have e4 : @Ne Nat l I' := by omega
    have e5 : @Ne Nat wl9 I' := by omega
    have e6 : @Ne Nat (h₀.objs.size + 1) I' := by omega
    have e7 : @Ne Nat I I' := by omega
    have e8 : @Ne Nat AX I' := by omega
    clear J0 oA H10 O9 NS NAX FAX lI' hI' lAX l1 hLO
    rintro k v itr m nw h tk ⟨x, y, tx, ty, n, own, u, bd, ⟨rfl, rfl, H9, hb, O9, hx, hy, hy2⟩⟩ hic ⟨st, ts, rfl⟩ F N
    refine wpAny_gen (fun PT2 hPT2 => ?_)
    unfold mapTW at F
    have N2 : News h₀ h₀.objs.size h ((l, listOf [.int x tx, .int y ty].toArray n) :: ((I', itr) :: (AX, _) :: (wl9, _) :: (I, it) :: (h₀.objs.size + 1, oc') :: own)) := fun p hp => by
      rcases List.mem_cons.mp hp with rfl | hp
      · exact N _ (.tail _ (.tail _ (.tail _ (.tail _ (.head _)))))
      rcases List.mem_cons.mp hp with rfl | hp
      · exact N _ (.head _)
      rcases List.mem_cons.mp hp with rfl | hp
      · exact N _ (.tail _ (.head _))
      rcases List.mem_cons.mp hp with rfl | hp
      · exact N _ (.tail _ (.tail _ (.head _)))
      rcases List.mem_cons.mp hp with rfl | hp
      · exact N _ (.tail _ (.tail _ (.tail _ (.head _))))
      · exact N _ (.tail _ (.tail _ (.tail _ (.tail _ (.tail _ hp)))))
    obtain ⟨tl, hT, N3⟩ := gen_tl N2
    clear N2
    have hc : (h₀.objs.size + 1, oc') ∈ tl := by rw [hT]; exact .tail _ (.tail _ (.tail _ (.tail _ (.head _))))
    have hol : OwnOff tl [l] := fun p hp b hb => by
      rw [List.mem_singleton.mp hb]
      rw [hT] at hp
      rcases List.mem_cons.mp hp with rfl | hp
      · exact e4.symm
      rcases List.mem_cons.mp hp with rfl | hp
      · exact e1.symm
      rcases List.mem_cons.mp hp with rfl | hp
      · exact e2.symm
      rcases List.mem_cons.mp hp with rfl | hp
      · exact d1.symm
      rcases List.mem_cons.mp hp with rfl | hp
      · exact d0.symm
      · exact O9 p hp _ (.tail _ (.tail _ (.tail _ (.head _))))
    clear N
    refine execs_midP (by assumption : Fr h₀ _ _ _) (fun mm s' => (∀ R9 : Prop, (∀ (D : Addr) (x y : Int) (tx ty : Tok) (n : Nat) (a b : Int) (t u : Tok) (nd : Nat) (h : Heap) (tk : Nat), (0 ≤ a ∧ 0 ≤ b ∧ 0 ≤ x ∧ 0 ≤ y ∧ y < 2147483647) → s' = { s with heap := h, toks := tk } → Fr h₀ h₀.objs.size h (fun z => if z = Str.ofString "times" then some (.ref D) else mm z) → News h₀ h₀.objs.size h ((D, listOf [.int a t, .int b u].toArray nd) :: (l, listOf [.int x tx, .int y ty].toArray n) :: tl) → (∀ p ∈ ((l, listOf [.int x tx, .int y ty].toArray n) :: tl), p.1 ≠ D) → R9) → R9)) ?_ ?_
    · intro P9 hP9
      k_steps
      unfold StopI
      refine LCg.CompSrc.range (n := 2) rfl (by k_asm) (by k_asm) (by assumption) (by decide) (by decide) (by exact Nat.le_of_ble_eq_true rfl) (fun g => ?_)
      refine comp_inv (fun k ys nw => JG l tl k ys nw) ?_ ?_ 2 0 [] _ ⟨x, y, tx, ty, n, ⟨rfl, hx, hy, hy2⟩, rfl, fun _ h => nomatch h⟩
      · rintro k v I3 oI C3 oC D3 m₂ h tk E' ys nw hC hx3 F N off ⟨n1, n2, n3⟩ ⟨x, y, tx, ty, n, ⟨rfl, hx, hy, hy2⟩, hlen, hints⟩
        obtain ⟨⟨o1, o2, o3⟩, offt⟩ := off
        dsimp only at o1 o2 o3
        k_steps
        refine ⟨_, _, (l, listOf [.int x9 tx9, .int y9 ty9].toArray n9) :: tl, rfl, by k_asm, by k_asm, ⟨⟨o1, o2, o3⟩, offt⟩, trivial, ⟨x9, y9, tx9, ty9, n9, ⟨rfl, by assumption, by assumption, by assumption⟩, ?_, ints_more hints (Int.mul_nonneg (by assumption) (Int.add_nonneg (by decide) (by assumption)))⟩⟩
        rw [List.length_append, List.length_singleton, Nat.add_assoc, Nat.add_comm 1 k]
        exact hlen
      · rintro ys nw ⟨x, y, tx, ty, n, ⟨rfl, hx, hy, hy2⟩, hlen, hints⟩
        obtain ⟨a, t, b, u, rfl, ha, hb⟩ := two_ints hlen hints
        unfold LCg.FinA
        intro D h tk F N o1
        exact stopF (hP9 _ (fun _ k9 => k9 D x y tx ty n a b t u 2 h tk ⟨ha, hb, hx, hy, hy2⟩ rfl F N (off1_mem o1)))
    · rintro s' M9; refine M9 _ ?_; clear M9; rintro D x y tx ty n a b t u nd h tk ⟨ha, hb2, hx, hy, hy2⟩ rfl F2 N2 oD
      subst hT
      have O10 : OwnOff own [D, AX, wl9, I, l, h₀.objs.size + 1, I'] := own_cons (fun p hp => oD p (.tail _ (.tail _ (.tail _ (.tail _ (.tail _ (.tail _ hp))))))) O9
      clear O9
      have O9 := O10
      clear O10
      have dD : @Ne Nat l D := oD _ (.head _)
      have hbd : bd ≤ 800 := Nat.le_trans (Nat.le_add_right _ _) hb
      k_steps
      have NE : News h₀ h₀.objs.size h9 ((I', itr) :: ledT AX wl9 I l (h₀.objs.size + 1) _ _ _ _ _ _ it oc' x9 y9 tx9 ty9 n9 own9) := fun p hp => by
        rcases List.mem_cons.mp hp with rfl | hp
        · exact N9 _ (.tail _ (.tail _ (.head _)))
        rcases List.mem_cons.mp hp with rfl | hp
        · exact N9 _ (.tail _ (.tail _ (.tail _ (.head _))))
        rcases List.mem_cons.mp hp with rfl | hp
        · exact N9 _ (.tail _ (.tail _ (.tail _ (.tail _ (.head _)))))
        rcases List.mem_cons.mp hp with rfl | hp
        · exact N9 _ (.tail _ (.tail _ (.tail _ (.tail _ (.tail _ (.head _))))))
        rcases List.mem_cons.mp hp with rfl | hp
        · exact N9 _ (.tail _ (.head _))
        · exact N9 _ (.tail _ (.tail _ (.tail _ (.tail _ (.tail _ (.tail _ hp))))))
      refine hPT2 .next _ ?_
      refine ⟨_, _, _, _, rfl, by k_asm, NE, ?_, ⟨x9, y9, tx9, ty9, n9, own9, _, bd + 4, ⟨mapTW_eq rfl rfl, rfl, H9, ?_, ?_, by assumption, by assumption, by assumption⟩⟩⟩
      · intro p hp
        rcases List.mem_cons.mp hp with rfl | hp
        · exact e8
        rcases List.mem_cons.mp hp with rfl | hp
        · exact e5
        rcases List.mem_cons.mp hp with rfl | hp
        · exact e7
        rcases List.mem_cons.mp hp with rfl | hp
        · exact e4
        rcases List.mem_cons.mp hp with rfl | hp
        · exact e6
        · exact O9 p hp _ (.tail _ (.tail _ (.head _)))
      · rw [Nat.add_assoc, Nat.add_comm 4 (4 * k)]; exact hb
      · intro p hp b hb9
        rcases List.mem_cons.mp hb9 with rfl | hb9
        · exact O9 p hp _ (.tail _ (.tail _ (.tail _ (.head _))))
        rcases List.mem_cons.mp hb9 with rfl | hb9
        · exact O9 p hp _ (.tail _ (.tail _ (.tail _ (.tail _ (.head _)))))
        rcases List.mem_cons.mp hb9 with rfl | hb9
        · exact O9 p hp _ (.tail _ (.tail _ (.tail _ (.tail _ (.tail _ (.head _))))))
        rcases List.mem_cons.mp hb9 with rfl | hb9
        · exact O9 p hp _ (.tail _ (.head _))
        rcases List.mem_cons.mp hb9 with rfl | hb9
        · exact O9 p hp _ (.tail _ (.tail _ (.tail _ (.tail _ (.tail _ (.tail _ (.head _)))))))
        rw [List.mem_singleton.mp hb9]; exact O9 p hp _ (.tail _ (.tail _ (.head _)))
  · rintro m nw h tk ⟨x, y, tx, ty, n, own, u, bd, ⟨rfl, rfl, H9, hb, O9, hx, hy, hy2⟩⟩ F N
    refine stopF (hP8 _ ?_)
    refine wpF_of (wpAny_execs_nil ?_)
    refine hPT .next _ ?_
    refine ⟨_, _, _, _, rfl, F, fun p hp => N p ?_, ?_, ⟨l, x, y, tx, ty, n, oc', rfl, dc', d0, hx, hy, hy2⟩⟩
    · exact .tail _ (.tail _ (List.mem_append_left own hp))
    · intro p hp
      rcases List.mem_cons.mp hp with rfl | hp
      · exact d1
      · rw [List.mem_singleton.mp hp]; exact d2
  · intro v hv
    repeat (rcases List.mem_cons.mp hv with rfl | hv; exact ⟨_, _, rfl⟩)
    exact nomatch hv
end
-- Hd7
end Mine
end
section
open PySem PySem.W PySem.Spec PySem.Calls PyProof.Rows
namespace Mine
noncomputable def aS : List Addr := [2, 3, 15, 17, 18, 20, 21, 29, 31, 32, 34, 35, 36, 37, 39, 40, 42, 43, 44, 46, 47, 49, 50, 51, 53, 54, 56, 57, 58, 60, 61, 63, 64, 65, 67, 68, 70, 71, 72, 73, 74, 75, 76, 86, 88, 89, 91, 92, 93, 95, 96, 98, 99, 100, 102, 103, 105, 106, 107, 109, 110, 112, 113, 114, 116, 117, 119, 120, 121, 123, 124, 126, 127, 128, 130, 131, 133, 134, 135, 137, 138, 140, 141, 142, 144, 145, 147, 148, 149, 151, 152, 154, 155, 156, 158, 159, 161, 162, 163, 164, 165, 166, 167, 170, 172, 173, 175, 176, 177, 179, 180, 182, 183, 184, 186, 187, 189, 190, 191, 193, 194, 196, 197, 198, 200, 201, 203, 204, 212, 214, 215, 217, 218, 219, 221, 222, 224, 225, 226, 228, 229, 231, 232, 233, 235, 236, 238, 239, 240, 242, 243, 245, 246, 247, 249, 250, 252, 253, 254, 256, 257, 259, 260, 261, 263, 264, 266, 267, 268, 270, 271, 273, 274, 275, 276, 277, 278, 279, 289, 291, 292, 294, 295, 296, 298, 299, 301, 302, 303, 305, 306, 308, 309, 310, 312, 313, 315, 316, 317, 319, 320, 322, 323, 324, 326, 327, 329, 330, 331, 332, 333, 334, 335, 338, 345, 347, 348, 350, 351, 352, 353, 354, 355, 358, 365, 366, 367, 370, 377, 378, 379, 389, 391, 392, 394, 395, 396, 398, 399, 401, 402, 403, 405, 406, 408, 409, 410, 412, 413, 415, 416, 417, 419, 420, 422, 423, 424, 426, 427, 429, 430, 431, 432, 433, 434, 435, 445, 447, 448, 450, 451, 452, 454, 455, 457, 458, 459, 461, 462, 464, 465, 466, 468, 469, 471, 472, 473, 474, 475, 476, 477, 487, 489, 490, 492, 493, 494, 496, 497, 499, 500, 501, 502, 504, 505, 507, 508, 509, 511, 512, 514, 515, 516, 518, 519, 521, 522, 523, 525, 526, 528, 529, 530, 532, 533, 535, 536, 537, 539, 540, 542, 543, 544, 546, 547, 549, 550, 551, 553, 554, 556, 557, 558, 560, 561, 563, 564, 565, 567, 568, 570, 571, 572, 574, 575, 577, 578, 579, 581, 582, 584, 585, 586, 588, 589, 591, 592, 593, 594, 596, 597, 599, 600, 601, 603, 604, 606, 607, 608, 610, 611, 613, 614, 615, 617, 618, 620, 621, 622, 624, 625, 627, 628, 629, 631, 632, 634, 635, 636, 638, 639, 641, 642, 643, 645, 646, 648, 649, 650, 652, 653, 655, 656, 657, 659, 660, 662, 663, 664, 665, 666, 667, 668, 671, 673, 674, 676, 677, 685, 686, 689, 690, 691, 693, 694, 696, 697, 698, 700, 701, 703, 704, 705, 707, 708, 710, 711, 712, 714, 715, 717, 718, 719, 721, 722, 724, 725, 726, 729, 730, 731, 733, 734, 736, 737, 738, 739, 740, 741, 742, 752, 754, 755, 757, 758, 759, 760, 761, 762, 763, 766, 768, 769, 771, 772, 780, 782, 783, 785, 786, 787, 789, 790, 792, 793, 794, 795, 797, 798, 800, 801, 802, 803, 804, 805, 806, 809, 811, 812, 814, 815, 816, 818, 819, 821, 822, 830, 832, 833, 835, 836, 837, 840, 841, 842, 844, 845, 847, 848, 849, 851, 852, 854, 855, 856, 858, 859, 861, 862, 863, 865, 866, 868, 869, 870, 872, 873, 875, 876, 877, 879, 880, 882, 883, 884, 886, 887, 889, 890, 891, 893, 894, 896, 897, 898, 900, 901, 903, 904, 905, 907, 908, 910, 911, 912, 913, 914, 915, 916, 926, 927, 929, 930, 932, 933, 934, 936, 937, 939, 940, 941, 943, 944, 946, 947, 948, 950, 951, 953, 954, 955, 957, 958, 960, 961, 962, 964, 965, 967, 968, 969, 971, 972, 974, 975, 976, 978, 979, 981, 982, 983, 985, 986, 988, 989, 990, 992, 993, 995, 996, 997, 999, 1000, 1002, 1003, 1004, 1006, 1007, 1009, 1010, 1011, 1013, 1014, 1016, 1017, 1018, 1020, 1021, 1023, 1024, 1025, 1027, 1028, 1030, 1031, 1032, 1034, 1035, 1037, 1038, 1039, 1041, 1042, 1044, 1045, 1046, 1047, 1048, 1049, 1050, 1053, 1055, 1056, 1058, 1059, 1060, 1062, 1063, 1065, 1066, 1067, 1069, 1070, 1072, 1073, 1074, 1076, 1077, 1079, 1080, 1081, 1083, 1084, 1086, 1087, 1088, 1091, 1092, 1093, 1095, 1096, 1098, 1099, 1100, 1102, 1103, 1105, 1106, 1107, 1110, 1111]
set_option maxRecDepth 100000 in
theorem aS_eq (P : Params) : aS = (Tr.pre.heap_1_39 P).map (·.1) := by kernel_rfl
abbrev lS : List Str := [Str.ofString "Sender", Str.ofString "Tcb"]
noncomputable abbrev hK : Hook := kHook Tr.pre.heap_1_39 aS aS_eq
noncomputable abbrev theRow : RowW := OpenRow.toRowW (OpenLaw.row PySem.Challenge.rw_xw0347_01)
theorem hd.tw5019376030195452869 : True := True.intro
theorem hd.tw15788979997828547599 : True := True.intro
set_option Elab.async true in
set_option maxRecDepth 100000 in
set_option maxHeartbeats 8000000 in
theorem hd (call : ∀ d kwd, defOf Tr.pre.view_1_40 (Str.ofString "law") = some (d, kwd) → WalkF Tr.pre.view_1_40 lS (XL Tr.pre.view_1_40 []) (InK Tr.pre.heap_1_39) theRow d kwd) : PySem.Challenge.rw_xw0347_01.Holds := by
  w_on
  o_law
  rename_i said
  refine Mine.PySem.W.holds_open (q := Tr.pre.view_1_40) (loose := lS) (Xt := fun s => xlAt Tr.pre.view_1_40 [] s && recOk (RowW.records theRow) s) (XP := XL Tr.pre.view_1_40 []) (Yf := Hook.obs hK) (Ya := Hook.val hK) (YP := Hook.says hK) (N := 14972)
    (LeftO.of_pieces (boot_open Tr.pre._proof_1_43 (of_decide_eq_true (id (Eq.refl true))) Tr.pre._proof_1_44) Tr.pre._proof_1_1602 Tr.pre._proof_1_1600 (of_decide_eq_true (id (Eq.refl true))) (fun w => funext fun os => Tr.pre._proof_1_1633 w os))
    (Hook.of hK) (Hook.keeps hK) (fun s e => xl_of s (Bool.and_eq_true_iff.mp e).1) XL.keeps (by rfl) (by rfl) (by rfl) (fun s e => recFacts_of (Bool.and_eq_true_iff.mp e).2) (by rfl) said Tr.pre._proof_1_41 ⟨rfl, rfl, rfl, rfl, rfl, Tr.pre._proof_1_42⟩ ⟨_, Tr.pre._proof_1_1634, Tr.pre._proof_1_1635⟩ (call _ _ (by rfl))
#print axioms Mine.hd
theorem calmHd7 : Mine.Tr.pre.heap_1_39 = Mine.Tr.pre.heap_1_39 := by
  w_top off
  exact rfl
end Mine
end
-- T20
section
open PySem PySem.W PySem.Spec PySem.Calls PyProof.Rows
namespace Mine
local macro_rules | `(tactic| k_room) => `(tactic| ((try simp only [depth_under_make, depth_under_kw, depth_in1, depth_deeper, depth_caller]); (try dsimp only [ktrTop]); omega))
local macro_rules | `(tactic| ktr_room) => `(tactic| ((try simp only [depth_under_make, depth_under_kw, depth_in1, depth_deeper, depth_caller]); (try dsimp only [ktrTop]); omega))
local macro_rules | `(tactic| walk_at $s:str) => `(tactic| k_extra $s)
local macro_rules | `(tactic| k_ne) => `(tactic| (refine neN ?_; (try dsimp only); first | with_reducible assumption | (refine Ne.symm ?_; with_reducible assumption)))
section
section
variable {prog : Program} {w : World} {A : Around} {R : Result → Shared → Prop} {s : Shared}
theorem callF_cellsN {name : Str} {params : Arguments} {body : List Stmt} {scope : Scope}
    {pm cd doc : Value} {a : Addr} {o : Obj} {args : List Value} {binds : List (Str × Value)}
    (hroom : A.depth < recursionLimit) (ho : s.heap.get? a = some o) (hdata : o.data = .func (Calls.docDef name params body scope pm cd doc)) (hlim : s.heap.NoLimit) (hcd : s.heap.CodeRec cd name)
    (hbind : bindArgs (Calls.docDef name params body scope pm cd doc) ⟨args, []⟩ = pure binds)
    (hkind : ∀ x ∈ binds, scope.names.lookup x.1 = some .local ∨ (scope.names.lookup x.1 = some .cell ∧ ((cellsFrom (s.heap.objs.size + 1) scope.names []).lookup x.1).isSome = true))
    (hnd : ((cellsFrom 0 scope.names []).map (·.1)).Nodup)
    (h : ∀ h₁ tk cells, Fr s.heap s.heap.objs.size h₁ (bindL (envOfC name scope s.heap.objs.size a cd).kindOf binds fun _ => none) → News s.heap s.heap.objs.size h₁ cells →
      CellsAre (bindC (envOfC name scope s.heap.objs.size a cd).kindOf binds fun _ => none) (cellsFrom (s.heap.objs.size + 1) scope.names []) cells →
      wpF (model prog w) (A.deeper (envOfC name scope s.heap.objs.size a cd)) (execs body (envOfC name scope s.heap.objs.size a cd))
        (fun f s' => R (.ok (.ret (match f with | .ret v => v | _ => .none))) s')
        (fun e s' => wpAny (model prog w) (A.deeper (envOfC name scope s.heap.objs.size a cd)) (leaving (envOfC name scope s.heap.objs.size a cd) e)
          (fun _ s'' => R (.error e) s'') (fun e' s'' => R (.error e') s'') s')
        { s with heap := h₁, toks := tk })
    (hco : scope.isCoroutine = false := by rfl) (hgen : scope.isGenerator = false := by rfl) (hk : scope.kind = .function := by rfl) :
    codeF (model prog w) A (.call (.ref a) ⟨args, []⟩) R s := by
  refine codeF_call_function hroom ho hdata hco hgen rfl hcd ?_
  rw [hbind]
  refine wpAny_pure (wpAny_newFunctionEnv_cells hk hkind fun env' he s' x => ?_)
  subst he
  refine ⟨hlim.keeps x.toInCall.keep, codeF_func ?_⟩
  obtain ⟨h₁, tk, rfl, _⟩ := x.done
  obtain ⟨cells, N, Y⟩ := Cl.news (h₀ := s.heap) (Nat.le_refl _) fun n c hm => ⟨x.cell n c (lookup_of_mem_nodup (cellsFrom_names scope.names 0 (s.heap.objs.size + 1) [] [] rfl ▸ hnd) hm), x.above n c hm⟩
  exact h h₁ tk cells ⟨x.toInCall.ns, x.toInCall.keep, x.toInCall.fresh⟩ N Y
end
theorem enterF_callWG {M : Model} {A : Around} {s : Shared} {f : Value} {pos : List Value} {kw : List (PySem.Str × Value)} {c : ClaimW} {cl : PySem.Str → Option Addr} {mean : ExcName → Option Value} {args : List WData} {s₁ : Shared}
    (h : codeF M A (.call f ⟨pos, kw⟩) (GoodWG c cl mean args s₁) s) : wpF M A (PySem.call f pos kw) (fun v s' => GoodWG c cl mean args s₁ (.ok (.ret v)) s') (fun e s' => GoodWG c cl mean args s₁ (.error e) s') s :=
  wpF_call (codeF_mono h fun res s' g => by rcases g.1 with ⟨v, _, _, rfl, _⟩ | ⟨e, _, _, rfl, _⟩ <;> exact g)
set_option maxRecDepth 100000 in
set_option maxHeartbeats 8000000 in
theorem it : PySem.Challenge.rw_xw0347_01.Holds := by
  refine hd fun d kwd hdef => ?_
  have e : defOf Tr.pre.view_1_40 (Str.ofString "law") = some (⟨Str.ofString "law", _, _, _, _⟩, []) := rfl
  rw [e] at hdef
  cases hdef
  k_fill
  intro w s₀ s₁ mg mb G Y fa o pm cd doc dV kV ho hd hcd hD hmg hg args vals as hpre hlay hrd hwl hlo
  have KX : (Tr.pre.heap_1_39 w.params).In s₁.heap := Y
  have X := (Ground.X G).1
  have V := (Ground.X G).2
  refine Ground.open G ?_
  intro T B D TE TW
  try (refine guard_noD D (by decide +kernel) ?_; clear D)
  obtain ⟨_, _, M⟩ := bmod_of_top T
  have TA := at_of_top T
  try (obtain ⟨_, _, he, B0⟩ := based_of_top T rfl hmg ho hd; have he' : cd = _ := he; subst he'; clear he)
  clear hmg
  wrow_args hpre hlay hrd hwl hlo
  refine enterF_callWG ?_
  have K0 := below_caller (Top.heap T)
  have he := Dflts.none hD rfl; subst he; have he := Dflts.noKw hD; subst he
  refine callF_cellsN (by decide) ho (fd_plain hd) (Top.nolimit T) hcd rfl (kinds_of (by kinds_ok)) (by decide) fun h₁ tk₁ cells F N0 X0 => ?_
  cells_open X0
  clear hd TA
  k_drop
  (try dsimp only)
  (try k_fold)
  refine law_F e K0 F N0 (by assumption) KX T (by assumption) (by assumption) (by omega) (fun u h' tk' F9 => ?_)
  clear F N0 X0
  dsimp only
  refine GoodW.toG ?_
  wrow_close
end
end Mine
end
theorem PySem.Challenge.cw_xw0347_01_holds : PySem.Challenge.rw_xw0347_01.Holds := by
  exact Mine.it
