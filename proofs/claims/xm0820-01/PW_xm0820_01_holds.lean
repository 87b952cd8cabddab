import PyProof.Rows.All
import Wide.All
import OpenK.AllK
import Wide.FinOn
import Lean
import PySem.Challenge.RW_xm0820_01
open PySem PySem.W PySem.Calls PyProof.Rows
set_option Elab.async false
set_option maxRecDepth 100000
namespace Mine

/-! the judgement of a run under a stack that holds no buffer's holder -/

noncomputable def holders : List String := ["bytearray.__contains__", "bytearray.__mod__", "bytearray.__rmod__", "_struct.pack_into.held", "bytearray.find.held"] ++ Builtin.Bytes.decodersThatHold
noncomputable def free : Code → Bool
  | .builtin id _ => !holders.contains id
  | _ => true
noncomputable def Clean (Γ : Ctx) : Prop := free Γ.code = true ∧ ∀ x ∈ Γ.below, free x.1 = true

theorem Clean.enter {Γ : Ctx} (h : Clean Γ) {c : Code} (hc : free c = true) (hd : Option Value) (p : Pos) : Clean (Γ.enter c hd p) :=
  ⟨hc, fun x hx => by
    rcases List.mem_cons.mp hx with rfl | hx
    · exact h.1
    · exact h.2 x hx⟩
theorem Clean.goto {Γ : Ctx} (h : Clean Γ) {c : Code} (hc : free c = true) : Clean (Γ.goto c) := ⟨hc, h.2⟩

noncomputable def wpC {α : Type} (M : Model) (A : Around) (t : Sem α) (Q : α → Shared → Prop) (E : Value → Shared → Prop) (s : Shared) : Prop :=
  ∀ Γ p, Γ.In A → Clean Γ → Sem.wp M Γ t (fun a _ s' => Q a s') (fun e _ s' => E e s') p s
noncomputable def codeC (M : Model) (A : Around) (c : Code) (R : Result → Shared → Prop) (s : Shared) : Prop :=
  ∀ Γ p, Γ.code = c → Γ.Below A → Clean Γ → wpCode M Γ R p s

section
variable {α β : Type} {M : Model} {A : Around} {E : Value → Shared → Prop} {s : Shared}

theorem wpC.of {t : Sem α} {Q : α → Shared → Prop} (h : wpAny M A t Q E s) : wpC M A t Q E s := fun Γ p hΓ _ => h Γ p hΓ
theorem codeC.of {c : Code} {R : Result → Shared → Prop} (h : codeAny M A c R s) : codeC M A c R s := fun Γ p hc hΓ _ => h Γ p hc hΓ
theorem wpC.mono {t : Sem α} {Q Q' : α → Shared → Prop} {E' : Value → Shared → Prop} (h : wpC M A t Q E s) (hQ : ∀ a s, Q a s → Q' a s) (hE : ∀ e s, E e s → E' e s) : wpC M A t Q' E' s :=
  fun Γ p hΓ hC => Sem.wp_mono M Γ t (fun a _ s => hQ a s) (fun e _ s => hE e s) p s (h Γ p hΓ hC)
theorem wpC.never {t : Sem α} {Q : α → Shared → Prop} (h : wpC M A t Q (fun _ _ => False) s) : wpC M A t Q E s := h.mono (fun _ _ x => x) fun _ _ x => x.elim
theorem wpC.pure {a : α} {Q : α → Shared → Prop} (h : Q a s) : wpC M A (pure a) Q E s := fun _ _ _ _ => h
theorem wpC.bind {m : Sem α} {f : α → Sem β} {Q : β → Shared → Prop} (h : wpC M A m (fun a s' => wpC M A (f a) Q E s') E s) : wpC M A (m >>= f) Q E s :=
  fun Γ p hΓ hC => by
    rw [Sem.wp_bind']
    exact Sem.wp_mono M Γ m (fun a p' s' h' => h' Γ p' hΓ hC) (fun _ _ _ h' => h') p s (h Γ p hΓ hC)
/-- a step of the library's, then the rest -/
theorem wpC.bindL {m : Sem α} {f : α → Sem β} {Q : β → Shared → Prop} (h : wpAny M A m (fun a s' => wpC M A (f a) Q E s') E s) : wpC M A (m >>= f) Q E s := .bind (.of h)
theorem wpC.standAt {pos : Pos} {f : Unit → Sem β} {Q : β → Shared → Prop} (h : wpC M A (f ()) Q E s) : wpC M A (PySem.standAt pos >>= f) Q E s := .bindL (wpAny_standAt h)
theorem wpC.holding {vs : List Value} {m : Sem α} {Q : α → Shared → Prop} (h : wpC M A m Q E s) : wpC M A (PySem.holding vs m) Q E s :=
  fun Γ p hΓ hC => by rw [Sem.wp_holding]; exact h Γ p hΓ hC
theorem wpC.keep {vs : List Value} {m : Sem α} {Q : α → Shared → Prop} (h : wpC M A m Q E s) : wpC M A (m.keep vs) Q E s :=
  fun Γ p hΓ hC => by rw [Sem.wp_keep]; exact h Γ p hΓ hC
theorem wpC.onRaise {m : Sem α} {k : Value → Sem Unit} {Q : α → Shared → Prop} (h : wpC M A m Q (fun _ _ => False) s) : wpC M A (m.onRaise k) Q E s := fun Γ p hΓ hC => by
  rw [Sem.wp_onRaise]
  exact Sem.wp_mono M Γ m (fun _ _ _ h' => h') (fun _ _ _ h' => h'.elim) p s (h Γ p hΓ hC)
theorem wpC.tryCatch {m : Sem α} {k : Value → Sem α} {Q : α → Shared → Prop} (h : wpC M A m Q (fun e s' => wpC M A (k e) Q E s') s) : wpC M A (tryCatch m k) Q E s := fun Γ p hΓ hC => by
  rw [Sem.wp_tryCatch']
  exact Sem.wp_mono M Γ m (fun _ _ _ h' => h') (fun e p' s' h' => h' Γ p' hΓ hC) p s (h Γ p hΓ hC)

theorem wpC.run {c : Code} {Q : Flow → Shared → Prop} (hf : free c = true)
    (hc : codeC M A c (fun r s' => match r with | .ok f => Q f s' | .error e => E e s') s) : wpC M A (PySem.run c) Q E s :=
  fun Γ p hΓ hC => by
    rw [Sem.wp_run]
    exact hc _ p rfl (hΓ.enter c none p (by intro x; cases x)) (hC.enter hf none p)
theorem wpC.runOwn {c : Code} {env : Env} {Q : Flow → Shared → Prop} (hf : free c = true)
    (hc : codeC M A c (fun r s' => match r with | .ok f => Q f s' | .error _ => False) s) : wpC M A (PySem.runOwn c env) Q E s := by
  unfold PySem.runOwn
  exact .onRaise (.run hf (fun Γ p a b c => wpCode_mono (fun r s' h => by cases r <;> exact h) (hc Γ p a b c)))
theorem wpC.runValue {c : Code} {Q : Value → Shared → Prop} (hf : free c = true)
    (hc : codeC M A c (fun r s' => match r with | .ok (.ret v) => Q v s' | .ok _ => False | .error e => E e s') s) :
    wpC M A (PySem.runValue c) Q E s := fun Γ p hΓ hC => by
  rw [Sem.wp_runValue]
  exact hc _ p rfl (hΓ.enter c none p (by intro x; cases x)) (hC.enter hf none p)
theorem wpC.call {f : Value} {pos : List Value} {kw : List (Str × Value)} {Q : Value → Shared → Prop}
    (hc : codeC M A (.call f ⟨pos, kw⟩) (fun r s' => match r with | .ok (.ret v) => Q v s' | .ok _ => False | .error e => E e s') s) :
    wpC M A (PySem.call f pos kw) Q E s := .runValue rfl hc

theorem codeC.tree {c : Code} {R : Result → Shared → Prop}
    (h : wpC M (A.under c) (M.den c) (fun fin s' => match fin with | .done f => R (.ok f) s' | .again c' => c'.quiet = true ∧ free c' = true ∧ codeC M A c' R s')
      (fun e s' => R (.error e) s') s) : codeC M A c R s := fun Γ p hc hΓ hC => by
  rw [wpCode_iff_wp, hc]
  refine Sem.wp_mono M Γ _ (fun fin p' s' h' => ?_) (fun _ _ _ h' => h') p s (h Γ p (hc ▸ hΓ.in) hC)
  cases fin with
  | done f => exact h'
  | again c' => exact ⟨h'.1, h'.2.2 (Γ.goto c') p' rfl (hΓ.goto c') (hC.goto h'.2.1)⟩
theorem codeC.mono {c : Code} {R R' : Result → Shared → Prop} (h : codeC M A c R s) (hR : ∀ r s, R r s → R' r s) : codeC M A c R' s :=
  fun Γ p hc hΓ hC => wpCode_mono hR (h Γ p hc hΓ hC)

/-! statements -/
variable {env : Env}
theorem wpC.execs_nil {Q : Flow → Shared → Prop} (h : Q .next s) : wpC M A (execs [] env) Q E s := fun _ _ _ _ => h
theorem wpC.execs_cons {st : Stmt} {rest : List Stmt} {Q : Flow → Shared → Prop}
    (h : wpC M A (exec st env) (fun f s' => match f with | .next => wpC M A (execs rest env) Q E s' | f => Q f s') E s) :
    wpC M A (execs (st :: rest) env) Q E s := by
  rw [PySem.execs_cons]
  refine .bind (h.mono (fun f s' h' => ?_) fun _ _ x => x)
  cases f <;> first | exact h' | exact .pure h'
/-- a statement that the library walks, then the rest -/
theorem wpC.consL {st : Stmt} {rest : List Stmt} {Q : Flow → Shared → Prop}
    (h : wpAny M A (exec st env) (fun f s' => match f with | .next => wpC M A (execs rest env) Q E s' | f => Q f s') E s) :
    wpC M A (execs (st :: rest) env) Q E s := .execs_cons (.of h)
theorem wpC.Expr {e : PySem.Expr} {pos : Pos} {Q : Flow → Shared → Prop} (h : wpC M A (eval e env) (fun v s' => match v with | .ref _ => False | _ => Q .next s') E s)
    (hi : interactive env = false := by rfl) (hs : swapsWith e none pos.line env = Pure.pure false := by rfl) : wpC M A (exec (.Expr e pos) env) Q E s := by
  rw [exec_Expr env e pos hi hs]
  refine .standAt (.bind (h.mono (fun v s' h' => ?_) fun _ _ x => x))
  have hv : ∀ a, v ≠ .ref a := fun a hva => by subst hva; exact h'
  rw [dropValue_plain hv]
  refine .pure ?_
  cases v <;> first | exact h' | exact (hv _ rfl).elim
theorem wpC.If {test : PySem.Expr} {body orelse : List Stmt} {pos : Pos} {Q : Flow → Shared → Prop}
    (h : wpC M A (isTrue test env (eval test env)) (fun b s₂ => if b = true then wpC M A (execs body env) Q E s₂ else wpC M A (execs orelse env) Q E s₂) E s) :
    wpC M A (exec (.If test body orelse pos) env) Q E s := by
  rw [exec_If]
  refine .standAt (.bind (h.mono (fun b s₂ h₂ => ?_) fun _ _ x => x))
  cases b <;> simpa using h₂
theorem wpC.IfL {test : PySem.Expr} {body orelse : List Stmt} {pos : Pos} {Q : Flow → Shared → Prop}
    (h : wpAny M A (isTrue test env (eval test env)) (fun b s₂ => if b = true then wpC M A (execs body env) Q E s₂ else wpC M A (execs orelse env) Q E s₂) E s) :
    wpC M A (exec (.If test body orelse pos) env) Q E s := .If (.of h)
theorem wpC.Return {e : PySem.Expr} {pos : Pos} {Q : Flow → Shared → Prop} (h : wpC M A (eval e env) (fun v => Q (.ret v)) E s) : wpC M A (exec (.Return (some e) pos) env) Q E s := by
  rw [exec_Return_some]
  exact .standAt (.bind (h.mono (fun v s' h' => .pure h') fun _ _ x => x))
end

section
variable {prog : Program} {w : World} {A : Around} {E : Value → Shared → Prop} {R : Result → Shared → Prop} {s : Shared} {env : Env}

theorem codeC.func {body : List Stmt} (h : wpC (model prog w) (A.deeper env) (execs body env) (fun f s' => R (.ok (.ret (match f with | .ret v => v | _ => .none))) s') (fun _ _ => False) s) :
    codeC (model prog w) A (.func body env) R s := by
  refine .tree ?_
  show wpC _ (A.deeper env) (do point; match ← (execs body env).onRaise (leaving env) with | .ret v => ret v | _ => ret .none) _ _ s
  refine .bindL (wpAny_point (.bind (.onRaise (h.mono (fun f s' h' => ?_) fun _ _ x => x))))
  cases f <;> exact .pure h'

theorem codeC.call_def {a : Addr} {o : Obj} {fd : FuncData} {body : List Stmt} {args : Args} {binds : List (Str × Value)}
    (hroom : A.depth < recursionLimit) (ho : s.heap.get? a = some o) (hdata : o.data = .func fd) (hlim : s.heap.NoLimit) (hcd : s.heap.CodeRec fd.code fd.qualname)
    (hbody : fd.body = .stmts body) (hbind : BindsTo s fd args binds)
    (hcell : ∀ x ∈ fd.scope.names, x.2 ≠ .cell) (hloc : ∀ x ∈ binds, fd.scope.names.lookup x.1 = some .local)
    (h : ∀ h₀, h₀.Ns s.heap.objs.size (fun x => binds.reverse.lookup x) → (∀ b o, s.heap.get? b = some o → h₀.get? b = some o) →
      wpC (model prog w) (A.deeper (callEnv fd s.heap.objs.size a)) (execs body (callEnv fd s.heap.objs.size a)) (fun f s' => R (.ok (.ret (match f with | .ret v => v | _ => .none))) s')
        (fun _ _ => False) { s with heap := h₀, toks := s.toks + binds.length })
    (hco : fd.scope.isCoroutine = false := by rfl) (hgen : fd.scope.isGenerator = false := by rfl) (hk : fd.scope.kind = .function := by rfl) :
    codeC (model prog w) A (.call (.ref a) args) R s := by
  refine .tree ?_
  show wpC _ A.in1 (callAny (.ref a) args) _ _ s
  simp only [callAny]
  refine .bindL (wpAny_load ho ?_)
  obtain ⟨c, oc, vs, tq, hc, hoc, hdc, hq⟩ := hcd
  simp only [hdata, callFunction, hco, hgen, hbody, hc]
  refine .bindL (m := field (.ref c) 1) (wpAny_field hoc hdc hq ?_)
  refine .bindL (wpAny_pure ?_)
  refine .bindL (hbind _ _ _ _ ?_)
  rw [← hc]
  refine .bindL (wpAny_newFunctionEnv hcell hloc (fun h₀ hns₀ hsb₀ => ?_) hk)
  refine .bindL (wpAny_enterFrame (hlim.fresh _ hsb₀) hroom ?_)
  refine .pure ⟨rfl, rfl, codeC.func (h h₀ hns₀ fun b o e => ?_)⟩
  exact hsb₀.extBut b o (Nat.ne_of_lt (Heap.lt_size e)) (Heap.get?_push_of_some _ e)
end

/-! the caller: its stack is clean, so a law may be walked under clean stacks -/

theorem caller_clean : Clean (⟨.builtin "claim.caller" {}, none, none, [], none⟩ : Ctx) := ⟨by decide +kernel, fun _ h => nomatch h⟩

theorem ends_clean {prog : Program} {w : World} {t : Sem Fin} {s : Shared} {R : Result → Shared → Prop} (hreg : s.asleep)
    (h : wpC (model prog w) callerA t (fun fin s' => ∃ f, fin = .done f ∧ (R (.ok f) s' ∧ leftWithCleanup s'.gens = false)) (fun e s' => R (.error e) s' ∧ leftWithCleanup s'.gens = false) s) :
    ∃ n r s' s'', runN (denote table) prog w n s ⟨t, .builtin "claim.caller" {}, default, []⟩ = .halted (outcomeOf r) s' ∧
      schedN (denote table) prog w n (.single s ⟨t, .builtin "claim.caller" {}, default, []⟩) = .halted (outcomeOf r) s' ∧ s'.forget = s''.forget ∧ R r s'' := by
  have h2 : Sem.wp (model prog w) ⟨.builtin "claim.caller" {}, none, none, [], none⟩ t (Sem.finPost (model prog w) ⟨.builtin "claim.caller" {}, none, none, [], none⟩ (fun r s' => R r s' ∧ leftWithCleanup s'.gens = false))
      (fun e _ s' => R (.error e) s' ∧ leftWithCleanup s'.gens = false) default s := by
    refine Sem.wp_mono (model prog w) _ t (fun fin p' s' h' => ?_) (fun _ _ _ h' => h') default s (h _ default caller_in caller_clean)
    obtain ⟨f, rfl, hf⟩ := h'
    exact hf
  obtain ⟨n, r, s₁, s₂, hs, hn, hfo, hR⟩ := wp_halts_full (M := model prog w) (R := R) hreg h2
  exact ⟨n, r, s₂, s₁, hn, hs, hfo, hR⟩

theorem from_clean {c : ClaimW} {tree : List Value → Sem Fin} {w : World} {s : Shared} {free : Addr → Prop} {gens : Prop} {kept : Heap → Prop} (hz : s.asleep) (hgens : s.gens = #[])
    (hspec : ∀ args, c.pre args = true → WData.layableAll args = true →
      ∀ ord : List DictEntry → List DictEntry, (∀ l, (ord l).Perm l) →
      ∃ vs s₁, layAllW c.records (classAt s.heap) w.params ord args s = some (vs, s₁) ∧
        wpC (model c.prog w) callerA (tree vs) (fun fin s' => ∃ f, fin = .done f ∧ (c.Ends s args vs s₁ (.ok f) s' ∧ s'.os = s.os ∧ AllBare s'.gens ∧ kept s'.heap))
          (fun e s' => c.Ends s args vs s₁ (.error e) s' ∧ s'.os = s.os ∧ AllBare s'.gens ∧ kept s'.heap) s₁) :
    c.CallFrom (fun vs => ⟨tree vs, .builtin "claim.caller" {}, default, []⟩) w free gens kept s := by
  intro args hpre hlay ord hord
  obtain ⟨vs, s₁, hlaid, hcode⟩ := hspec args hpre hlay ord hord
  have hal := layAllW_rest _ _ _ hlaid
  obtain ⟨k, r, s', s'', hrun, hsched, hfo, hcase, hos, hkp⟩ := ends_clean (prog := c.prog) (w := w) (t := tree vs) (s := s₁)
    (R := fun r s' => c.Ends s args vs s₁ r s' ∧ s'.os = s.os ∧ kept s'.heap) (Shared.asleep_of_life hal.2.2.2 hz)
    (hcode.mono (fun _ _ ⟨f, e, a, b, d, k⟩ => ⟨f, e, ⟨a, b, k⟩, leftWithCleanup_false_of_bare d⟩) fun _ _ ⟨a, b, d, k⟩ => ⟨⟨a, b, k⟩, leftWithCleanup_false_of_bare d⟩)
  obtain ⟨eh, _, _, eo, _⟩ := Shared.forget_eq hfo
  have hcase := hcase.congr eh
  rw [← eh] at hkp
  rw [← eo] at hos
  have hlife : s'.heap.life = s.heap.life := (runN_life _ _ _ hrun).trans hal.2.2.2
  refine ⟨vs, s₁, hlaid, k, _, s', hsched, ?_, (fun _ i x hx => by rw [hgens] at hx; simp at hx), hkp, by rw [hlife], Shared.rest_eq hos⟩
  rcases hcase with ⟨v, rfl, d1, d2, d3, d4, d5⟩ | ⟨e, ob, cls, rfl, d1, d2, d3, d4, d5⟩
  · exact .inl ⟨v, rfl, d1, d2, d3, fun b o y _ => d4 b o y, d5⟩
  · exact .inr ⟨e, ob, cls, rfl, d1, d2, d3, d4, fun b o y _ => d5 b o y⟩

noncomputable abbrev WalkC (q : Program) (loose : List Str) (XP : (Str → Option Value) → Heap → Prop) (YP : World → Heap → Prop) (r : RowW) (d : DefRec) (kwd : List (Str × PySem.Expr)) : Prop :=
  ∀ (w : World) (s₀ s₁ : Shared) (mg mb : Str → Option Value), Ground q loose r.records XP w s₀ mg mb s₁.heap → YP w s₁.heap → ∀ (a : Addr) (o : Obj) (pm cd doc dV kV : Value), s₁.heap.get? a = some o →
    o.data = .func { docDef d.name d.params d.body d.scope pm cd doc with defaults := dV, kwdefaults := kV } → s₁.heap.CodeRec cd d.name → Dflts mg s₁.heap d.params kwd dV kV → mg d.name = some (.ref a) → s₁.gens = #[] →
    ∀ (args : List WData) (vals : List Value) (as : List Addr), r.claim.pre args = true → WData.layableAll args = true → ReadsAllW r.records (classAt s₀.heap) s₁.heap vals args as → WellAll w.params s₁.heap vals args → (∀ a ∈ as, (a == sysModules) = false) →
      wpC (model r.prog w) callerA (PySem.call (.ref a) vals) (fun v s' => GoodWG r.claim (classAt s₀.heap) (ExcName.means s₀.heap) args s₁ (.ok (.ret v)) s')
        (fun e s' => GoodWG r.claim (classAt s₀.heap) (ExcName.means s₀.heap) args s₁ (.error e) s') s₁

end Mine
namespace Mine.PySem.W
theorem holds_open {r : OpenRow} {q : Program} {loose : List Str} {Xt : Shared → Bool} {XP : (Str → Option Value) → Heap → Prop} {α : Type} {Yf : Shared → α} {Ya : World → α} {YP : World → Heap → Prop} {d : DefRec} {kwd : List (Str × PySem.Expr)} {N : Nat}
    (left : LeftO r.prog q loose Xt Yf Ya N) (hY : ∀ w s, Yf s = Ya w → YP w s.heap) (hYk : ∀ w h h', YP w h → (∀ b o, h.get? b = some o → h'.get? b = some o) → YP w h')
    (hX : ∀ s, Xt s = true → XP (s.heap.nsMap mainGlobals) s.heap) (hXk : ∀ mg h h', XP mg h → (∀ b o, h.get? b = some o → h'.get? b = some o) → XP mg h')
    (hdef : defOf q r.name = some (d, kwd)) (hp : r.prog.theDef r.name = some (d.params, d.body, d.scope)) (hk : kwWritten? d.params.kwonlyargs d.params.kw_defaults = some kwd) (hRf : ∀ s, Xt s = true → RecFacts r.records s.heap) (hwr : (!r.writes || r.records.isEmpty) = true)
    (k1 : r.wellSaid = true) (ok : (chainsOk q && opensWell r.prog && (frees r.toRowW && r.within.isEmpty)) = true) (hb : r.prog.bare) (hw : r.toRowW.promised)
    (call : WalkC q loose XP YP r.toRowW d kwd) : r.Holds := by
  obtain ⟨ok, k5⟩ := Bool.and_eq_true_iff.mp ok
  obtain ⟨hch, o1⟩ := Bool.and_eq_true_iff.mp ok
  obtain ⟨k5, k6⟩ := Bool.and_eq_true_iff.mp k5
  obtain ⟨hsame, hu, ha, hap, hm⟩ := frees_parts k5
  refine ⟨k1, hw, ⟨hb, o1, by show r.toRowW.makers.map _ = []; rw [hm]; rfl⟩, hw.witness, fun w => ⟨(left.behind hX hch w).1, fun s' hs' => ?_⟩⟩
  obtain ⟨s₀, hf, hg0, s, hT, hz, hgens, hg, G00, y⟩ := (left.behind (XP := fun mg h => XP mg h ∧ RecFacts r.records h) (fun s hs => ⟨hX s hs, hRf s hs⟩) hch w).2 s' hs'
  have G0 : Ground q loose [] XP w s (s.heap.nsMap mainGlobals) (s.heap.nsMap builtinsNs) s.heap := ⟨G00.T, G00.B, G00.D, G00.TE, G00.TD, G00.W, G00.X.1, G00.cls, G00.has, G00.apart, G00.once, G00.K⟩
  have RF := G00.X.2
  refine ⟨s₀, hf, hg0, s, hT, fun n hn => ?_, RF.1, RF.2.1, ?_⟩
  · obtain rfl : n = r.name := by split at hn <;> simp_all
    exact pinned_of_view hg G0 hdef hp hk
  have hgens : s.gens = #[] := Array.eq_empty_of_size_eq_zero (beq_iff_eq.mp hgens)
  have G : Ground q loose r.records XP w s _ _ s.heap := RF.ground G0
  refine from_clean (c := r.toRowW.claim) hz hgens fun args hpre hlay ord hord => ?_
  obtain ⟨⟨vs, s₁⟩, hlaid⟩ := Option.isSome_iff_exists.mp (layAllW_isSome (P := w.params) (ord := ord) G.has args r.toRowW.args s (pre_splitW hpre).1)
  have keeps := layAllW_keeps _ _ _ hlaid
  have hal := layAllW_rest _ _ _ hlaid
  obtain ⟨as, hrd, hin, hold⟩ := reads_layAllW hord _ _ _ hlaid hlay s₁.heap (fun _ _ e => e)
  have L : Laid r.records w s s₁ args vs as := ⟨⟨ord, hord, hlaid⟩, hrd, hin, hold, keeps, hal.1.trans hgens, hal.2.2.1⟩
  have G₁ := G.keeps hXk keeps
  obtain ⟨a, o, pm, cd, doc, dV, kV, h1, h2, h3, h4, h5⟩ := G₁.fn hdef
  have h := call w s s₁ _ _ G₁ (hYk _ _ _ (hY w s y) keeps) a o pm cd doc dV kV h2 h3 h4 h5 (defOf_name hdef ▸ h1) L.gens args vs as hpre hlay L.reads L.well (L.low G.low)
  have hi := ident_freeW hu ha hap
  have hwi : r.toRowW.claim.within = [] := List.isEmpty_iff.mp k6
  refine ⟨vs, s₁, hlaid, ?_⟩
  have e : (wpC (model r.toRowW.claim.prog w) callerA (PySem.call (.ref a) vs >>= fun v => ret v) (fun fin s' => ∃ f, fin = .done f ∧ (r.toRowW.claim.Ends s args vs s₁ (.ok f) s' ∧ s'.os = s.os ∧ AllBare s'.gens ∧ (r.writes = true →
      namesKept r.toRowW.claim.prog r.keeps s.heap s'.heap ∧ ∀ x ∈ r.toRowW.claim.records, ∀ a, classAt s.heap x.1 = some a → recordClass s'.heap a x.1 (x.2.map (·.1)) = true)))
    (fun e s' => r.toRowW.claim.Ends s args vs s₁ (.error e) s' ∧ s'.os = s.os ∧ AllBare s'.gens ∧ (r.writes = true →
      namesKept r.toRowW.claim.prog r.keeps s.heap s'.heap ∧ ∀ x ∈ r.toRowW.claim.records, ∀ a, classAt s.heap x.1 = some a → recordClass s'.heap a x.1 (x.2.map (·.1)) = true)) s₁) := by
    refine .bind (h.mono (fun v s' g => ?_) fun e s' g => ?_)
    · have z := g.laid (c := r.toRowW.claim) hsame hwi hi L
      exact .pure ⟨_, rfl, z.1, z.2.1, z.2.2, fun q => ⟨namesKept_of hT hg _ keeps g.2.1.old, noTable hwr q⟩⟩
    · have z := g.laid (c := r.toRowW.claim) hsame hwi hi L
      exact ⟨z.1, z.2.1, z.2.2, fun q => ⟨namesKept_of hT hg _ keeps g.2.1.old, noTable hwr q⟩⟩
  exact .bindL (wpAny_nsGet G₁.T.g (by rw [h1]; exact e))
end Mine.PySem.W
namespace Mine
name_quick tw8902219603052485911 for PySem.W.S.findZ by PySem.W.S.findZ_eq
name_quick tw12981051755390344553 for PySem.W.S.findZ by PySem.W.S.findZ_eq
name_quick tw11108263761283441063 for PySem.W.S.findZ by PySem.W.S.findZ_eq
name_quick tw13987355940573415152 for PySem.W.S.findZ by PySem.W.S.findZ_eq
name_quick tw9800571698397750058 for PySem.W.S.findZ by PySem.W.S.findZ_eq
name_quick tw183835017167291270 for PySem.W.S.findZ by PySem.W.S.findZ_eq
name_quick tw11964429278604863157 for PySem.W.S.findZ by PySem.W.S.findZ_eq
name_quick tw6135381517318000843 for PySem.W.S.findZ by PySem.W.S.findZ_eq
name_quick tw15323854079317868165 for PySem.W.S.findZ by PySem.W.S.findZ_eq
name_quick tw16176465441171805009 for PySem.W.S.findZ by PySem.W.S.findZ_eq
name_quick tw1706496860858754268 for PySem.W.S.findZ by PySem.W.S.findZ_eq
name_quick tw2660918139993853925 for PySem.W.S.findZ by PySem.W.S.findZ_eq
name_quick tw18263319221461684349 for PySem.W.S.findZ by PySem.W.S.findZ_eq
name_quick tw1041845030581493396 for PySem.W.S.findZ by PySem.W.S.findZ_eq
name_quick tw704327219915372674 for PySem.W.S.findZ by PySem.W.S.findZ_eq
name_quick tw5732905514179830355 for PySem.W.S.findZ by PySem.W.S.findZ_eq
name_quick tw4921902886906138986 for PySem.W.S.findZ by PySem.W.S.findZ_eq
name_quick tw1617757218408452269 for PySem.W.S.findZ by PySem.W.S.findZ_eq
name_quick tw17975652961387846372 for PySem.W.S.findZ by PySem.W.S.findZ_eq
name_quick tw4525517667737911620 for PySem.W.S.findZ by PySem.W.S.findZ_eq
name_quick tw3856783459128436802 for PySem.W.S.findZ by PySem.W.S.findZ_eq
name_quick tw5925582254088234700 for PySem.W.S.findZ by PySem.W.S.findZ_eq
name_quick tw1638017585896720355 for PySem.W.S.findZ by PySem.W.S.findZ_eq
name_quick tw16049961110935095269 for PySem.W.S.findZ by PySem.W.S.findZ_eq
name_quick tw9674257727999782656 for PySem.W.S.findZ by PySem.W.S.findZ_eq
name_quick tw4302124980754421698 for PySem.W.S.findZ by PySem.W.S.findZ_eq
name_quick tw12898947447245864913 for PySem.W.S.findZ by PySem.W.S.findZ_eq
name_quick tw11863081143760314161 for PySem.W.S.findZ by PySem.W.S.findZ_eq
name_quick tw15079194523842364033 for PySem.W.S.findZ by PySem.W.S.findZ_eq
name_quick tw13900631225919944168 for PySem.W.S.findZ by PySem.W.S.findZ_eq
name_quick tw17517737089405305841 for PySem.W.S.findZ by PySem.W.S.findZ_eq
name_quick tw15823609455315575823 for PySem.W.S.findZ by PySem.W.S.findZ_eq
name_quick tw12371321757623732685 for PySem.W.S.findZ by PySem.W.S.findZ_eq
name_quick tw13912434898499826684 for PySem.W.S.findZ by PySem.W.S.findZ_eq
name_quick tw18056578402003937789 for PySem.W.S.findZ by PySem.W.S.findZ_eq
name_quick tw14333388528381170442 for PySem.W.S.findZ by PySem.W.S.findZ_eq
name_quick tw11790162104776037713 for PySem.W.S.findZ by PySem.W.S.findZ_eq
name_quick tw1370275717833778536 for PySem.W.S.findZ by PySem.W.S.findZ_eq
name_quick tw3282434896037501709 for PySem.W.S.findZ by PySem.W.S.findZ_eq
name_quick tw6019396324639902685 for PySem.W.S.findZ by PySem.W.S.findZ_eq
name_quick tw7745614565497352828 for PySem.W.S.findZ by PySem.W.S.findZ_eq
name_quick tw17846936440860909165 for PySem.W.S.findZ by PySem.W.S.findZ_eq
name_quick tw6004533443673955352 for PySem.W.S.findZ by PySem.W.S.findZ_eq
name_quick tw17863021456227041891 for PySem.W.S.findZ by PySem.W.S.findZ_eq
name_quick tw15900120412870309639 for PySem.W.S.findZ by PySem.W.S.findZ_eq
name_quick tw13145125596335152023 for PySem.W.S.findZ by PySem.W.S.findZ_eq
name_quick tw7365555872484859036 for PySem.W.S.findZ by PySem.W.S.findZ_eq
name_quick tw11420187438672877268 for PySem.W.S.findZ by PySem.W.S.findZ_eq
name_quick tw6363645014702824404 for PySem.W.S.findZ by PySem.W.S.findZ_eq
name_quick tw15919542637913265678 for PySem.W.S.findZ by PySem.W.S.findZ_eq
name_quick tw13141144453892091621 for PySem.W.S.findZ by PySem.W.S.findZ_eq
name_quick tw13776390136698705113 for PySem.W.S.findZ by PySem.W.S.findZ_eq
name_quick tw11161088081135249708 for PySem.W.S.findZ by PySem.W.S.findZ_eq
name_quick tw10919533547850550483 for PySem.W.S.findZ by PySem.W.S.findZ_eq
name_quick tw1886563365779066154 for PySem.W.S.findZ by PySem.W.S.findZ_eq
name_quick tw6059929106960060952 for PySem.W.S.findZ by PySem.W.S.findZ_eq
name_quick tw5345256250457102556 for PySem.W.S.findZ by PySem.W.S.findZ_eq
name_quick tw11462045893675790159 for PySem.W.S.findZ by PySem.W.S.findZ_eq
name_quick tw17552769576498331613 for PySem.W.S.findZ by PySem.W.S.findZ_eq
name_quick tw13615603153576403970 for PySem.W.S.findZ by PySem.W.S.findZ_eq
name_quick tw13036272033356848781 for PySem.W.S.findZ by PySem.W.S.findZ_eq
name_quick tw8989982439271903415 for PySem.W.S.findZ by PySem.W.S.findZ_eq
name_quick tw13607416678640721797 for PySem.W.S.findZ by PySem.W.S.findZ_eq
name_quick tw347637069881736656 for PySem.W.S.findZ by PySem.W.S.findZ_eq
name_quick tw8253183596043897158 for PySem.W.S.findZ by PySem.W.S.findZ_eq
name_quick tw1962928258387122110 for PySem.W.S.findZ by PySem.W.S.findZ_eq
name_quick tw2422670821966735624 for PySem.W.S.findZ by PySem.W.S.findZ_eq
name_quick tw9626621113073979434 for PySem.W.S.findZ by PySem.W.S.findZ_eq
name_quick tw2354101950205528012 for PySem.W.S.findZ by PySem.W.S.findZ_eq
name_quick tw9931943479562821362 for PySem.W.S.findZ by PySem.W.S.findZ_eq
name_quick tw7581352650102555174 for PySem.W.S.findZ by PySem.W.S.findZ_eq
name_quick tw10007627690174824804 for PySem.W.S.findZ by PySem.W.S.findZ_eq
name_quick tw7275051467321613617 for PySem.W.S.findZ by PySem.W.S.findZ_eq
name_quick tw558745408833754511 for PySem.W.S.findZ by PySem.W.S.findZ_eq
name_quick tw12450158673883907302 for PySem.W.S.findZ by PySem.W.S.findZ_eq
name_quick tw14023627001141898710 for PySem.W.S.findZ by PySem.W.S.findZ_eq
name_quick tw6380047634161181297 for PySem.W.S.findZ by PySem.W.S.findZ_eq
name_quick tw10948738476641704880 for PySem.W.S.findZ by PySem.W.S.findZ_eq
name_quick tw17069979004554194336 for PySem.W.S.findZ by PySem.W.S.findZ_eq
name_quick tw8424611434330503625 for PySem.W.S.findZ by PySem.W.S.findZ_eq
name_quick tw7650934615059315214 for PySem.W.S.findZ by PySem.W.S.findZ_eq
name_quick tw7299951869573292228 for PySem.W.S.findZ by PySem.W.S.findZ_eq
name_quick tw392140993173905013 for PySem.W.S.findZ by PySem.W.S.findZ_eq
name_quick tw7198390536060210744 for PySem.W.S.findZ by PySem.W.S.findZ_eq
name_quick tw16413264400604254196 for PySem.W.S.findZ by PySem.W.S.findZ_eq
name_quick tw10833955939284561965 for PySem.W.S.findZ by PySem.W.S.findZ_eq
name_quick tw3105397867545767578 for PySem.W.S.findZ by PySem.W.S.findZ_eq
name_quick tw4407734736301137906 for PySem.W.S.findZ by PySem.W.S.findZ_eq
name_quick tw4319705520415482375 for PySem.W.S.findZ by PySem.W.S.findZ_eq
name_quick tw17672482021469178181 for PySem.W.S.findZ by PySem.W.S.findZ_eq
name_quick tw13335737130258781183 for PySem.W.S.findZ by PySem.W.S.findZ_eq
name_quick tw8753696776887207221 for PySem.W.S.findZ by PySem.W.S.findZ_eq
name_quick tw8032284361305108907 for PySem.W.S.findZ by PySem.W.S.findZ_eq
name_quick tw16947794391021106201 for PySem.W.S.findZ by PySem.W.S.findZ_eq
name_quick tw912392155897948271 for PySem.W.S.findZ by PySem.W.S.findZ_eq
name_quick tw1574873078441994576 for PySem.W.S.findZ by PySem.W.S.findZ_eq
name_quick tw12835720964997663042 for PySem.W.S.findZ by PySem.W.S.findZ_eq
name_quick tw9787463984185863102 for PySem.W.S.findZ by PySem.W.S.findZ_eq
name_quick tw16439824349840649037 for PySem.W.S.findZ by PySem.W.S.findZ_eq
name_quick tw1184552218554016812 for PySem.W.S.findZ by PySem.W.S.findZ_eq
name_quick tw4797165386629745026 for PySem.W.S.findZ by PySem.W.S.findZ_eq
name_quick tw6722154040420286063 for PySem.W.S.findZ by PySem.W.S.findZ_eq
name_quick tw16349216596472256690 for PySem.W.S.findZ by PySem.W.S.findZ_eq
name_quick tw3424931102881643321 for PySem.W.S.findZ by PySem.W.S.findZ_eq
name_quick tw8579058602437062094 for PySem.W.S.findZ by PySem.W.S.findZ_eq
name_quick tw15806122291839087668 for PySem.W.S.findZ by PySem.W.S.findZ_eq
name_quick tw12233582284571471492 for PySem.W.S.findZ by PySem.W.S.findZ_eq
name_quick tw1772237422875290029 for PySem.W.S.findZ by PySem.W.S.findZ_eq
name_quick tw12825359941727978080 for PySem.W.S.findZ by PySem.W.S.findZ_eq
name_quick tw8708707556590381134 for PySem.W.S.findZ by PySem.W.S.findZ_eq
name_quick tw2905824091091238844 for PySem.W.S.findZ by PySem.W.S.findZ_eq
name_quick tw12393455550290869266 for PySem.W.S.findZ by PySem.W.S.findZ_eq
name_quick tw1735497430108182060 for PySem.W.S.findZ by PySem.W.S.findZ_eq
name_quick tw18345786424863182364 for PySem.W.S.findZ by PySem.W.S.findZ_eq
name_quick tw12392613427281201732 for PySem.W.S.findZ by PySem.W.S.findZ_eq
name_quick tw5135500740108067664 for PySem.W.S.findZ by PySem.W.S.findZ_eq
name_quick tw8206430501311747189 for PySem.W.S.findZ by PySem.W.S.findZ_eq
name_quick tw1156252341971683116 for PySem.W.S.findZ by PySem.W.S.findZ_eq
name_quick tw9529234661008812162 for PySem.W.S.findZ by PySem.W.S.findZ_eq
name_quick tw15450981722951097364 for PySem.W.S.findZ by PySem.W.S.findZ_eq
name_quick tw17001327861769816259 for PySem.W.S.findZ by PySem.W.S.findZ_eq
name_quick tw4275521005467322725 for PySem.W.S.findZ by PySem.W.S.findZ_eq
name_quick tw8796240567053077481 for PySem.W.S.findZ by PySem.W.S.findZ_eq
name_quick tw667198328695590252 for PySem.W.S.findZ by PySem.W.S.findZ_eq
name_quick tw18416463498863911781 for PySem.W.S.findZ by PySem.W.S.findZ_eq
name_quick tw9951705424602377420 for PySem.W.S.findZ by PySem.W.S.findZ_eq
name_quick tw7276740287692124622 for PySem.W.S.findZ by PySem.W.S.findZ_eq
name_quick tw10010936943081839664 for PySem.W.S.findZ by PySem.W.S.findZ_eq
name_quick tw2193789692954389824 for PySem.W.S.findZ by PySem.W.S.findZ_eq
name_quick tw16180582048198870337 for PySem.W.S.findZ by PySem.W.S.findZ_eq
name_quick tw6426273055680023932 for PySem.W.S.findZ by PySem.W.S.findZ_eq
name_quick tw8047484207015712433 for PySem.W.S.findZ by PySem.W.S.findZ_eq
name_quick tw7401281599722004195 for PySem.W.S.findZ by PySem.W.S.findZ_eq
name_quick tw15663404670287596823 for PySem.W.S.findZ by PySem.W.S.findZ_eq
name_quick tw11994158751524154303 for PySem.W.S.findZ by PySem.W.S.findZ_eq
name_quick tw17476080006546285661 for PySem.W.S.findZ by PySem.W.S.findZ_eq
name_quick tw8860024209350480642 for PySem.W.S.findZ by PySem.W.S.findZ_eq
name_quick tw14224011070414065920 for PySem.W.S.findZ by PySem.W.S.findZ_eq
name_quick tw7783732958741208154 for PySem.W.S.findZ by PySem.W.S.findZ_eq
name_quick tw9305782018832362445 for PySem.W.S.findZ by PySem.W.S.findZ_eq
name_quick tw16916688483869632129 for PySem.W.S.findZ by PySem.W.S.findZ_eq
name_quick tw16350708796919097252 for PySem.W.S.findZ by PySem.W.S.findZ_eq
name_quick tw17300597898927385350 for PySem.W.S.findZ by PySem.W.S.findZ_eq
name_quick tw1414301608579184545 for PySem.W.S.findZ by PySem.W.S.findZ_eq
name_quick tw11796506867022685745 for PySem.W.S.findZ by PySem.W.S.findZ_eq
name_quick tw16296994325663420285 for PySem.W.S.findZ by PySem.W.S.findZ_eq
name_quick tw13016732220969518872 for PySem.W.S.findZ by PySem.W.S.findZ_eq
name_quick tw9594665118957945026 for PySem.W.S.findZ by PySem.W.S.findZ_eq
name_quick tw9458956999447867950 for PySem.W.S.findZ by PySem.W.S.findZ_eq
name_quick tw15542503528162795033 for PySem.W.S.findZ by PySem.W.S.findZ_eq
name_quick tw11729385059970357855 for PySem.W.S.findZ by PySem.W.S.findZ_eq
name_quick tw7232422423428716515 for PySem.W.S.findZ by PySem.W.S.findZ_eq
name_quick tw16145008321745377990 for PySem.W.S.findZ by PySem.W.S.findZ_eq
name_quick tw14112274594779413971 for PySem.W.S.findZ by PySem.W.S.findZ_eq
name_quick tw11013792430000457035 for PySem.W.S.findZ by PySem.W.S.findZ_eq
name_quick tw16752143609539240740 for PySem.W.S.findZ by PySem.W.S.findZ_eq
name_quick tw2711585505577850959 for PySem.W.S.findZ by PySem.W.S.findZ_eq
name_quick tw12454898628767826759 for PySem.W.S.findZ by PySem.W.S.findZ_eq
name_quick tw7250012664060256230 for PySem.W.S.findZ by PySem.W.S.findZ_eq
name_quick tw17730448691065144110 for PySem.W.S.findZ by PySem.W.S.findZ_eq
name_quick tw682011567655089306 for PySem.W.S.findZ by PySem.W.S.findZ_eq
name_quick tw9285146279643344392 for PySem.W.S.findZ by PySem.W.S.findZ_eq
name_quick tw14311459727803291754 for PySem.W.S.findZ by PySem.W.S.findZ_eq
name_quick tw9011979029575296479 for PySem.W.S.findZ by PySem.W.S.findZ_eq
name_quick tw11277716924127702174 for PySem.W.S.findZ by PySem.W.S.findZ_eq
name_quick tw3619232141914619222 for PySem.W.S.findZ by PySem.W.S.findZ_eq
name_quick tw18101931140130867144 for PySem.W.S.findZ by PySem.W.S.findZ_eq
name_quick tw1355338860687761863 for PySem.W.S.findZ by PySem.W.S.findZ_eq
name_quick tw14884601019740666482 for PySem.W.S.findZ by PySem.W.S.findZ_eq
name_quick tw17964007177503468958 for PySem.W.S.findZ by PySem.W.S.findZ_eq
name_quick tw3577408171920636059 for PySem.W.S.findZ by PySem.W.S.findZ_eq
name_quick tw6122645084068987007 for PySem.W.S.findZ by PySem.W.S.findZ_eq
name_quick tw13180171748994924942 for PySem.W.S.findZ by PySem.W.S.findZ_eq
name_quick tw4292500188555128830 for PySem.W.S.findZ by PySem.W.S.findZ_eq
name_quick tw1291980286583624508 for PySem.W.S.findZ by PySem.W.S.findZ_eq
name_quick tw18350330562280901221 for PySem.W.S.findZ by PySem.W.S.findZ_eq
name_quick tw43969757491396457 for PySem.W.S.findZ by PySem.W.S.findZ_eq
name_quick tw12659028871203227004 for PySem.W.S.findZ by PySem.W.S.findZ_eq
name_quick tw460243522976405022 for PySem.W.S.findZ by PySem.W.S.findZ_eq
name_quick tw5978237884098788730 for PySem.W.S.findZ by PySem.W.S.findZ_eq
name_quick tw9759809726879904816 for PySem.W.S.findZ by PySem.W.S.findZ_eq
name_quick tw4658958612460137192 for PySem.W.S.findZ by PySem.W.S.findZ_eq
name_quick tw15263041282635125899 for PySem.W.S.findZ by PySem.W.S.findZ_eq
name_quick tw17954471519018878134 for PySem.W.S.findZ by PySem.W.S.findZ_eq
name_quick tw15007238320947547705 for PySem.W.S.findZ by PySem.W.S.findZ_eq
name_quick tw16643379632663270332 for PySem.W.S.findZ by PySem.W.S.findZ_eq
name_quick tw15168306246750427876 for PySem.W.S.findZ by PySem.W.S.findZ_eq
name_quick tw16593013826814733010 for PySem.W.S.findZ by PySem.W.S.findZ_eq
name_quick tw3362959441861295915 for PySem.W.S.findZ by PySem.W.S.findZ_eq
name_quick tw11306939235166856333 for PySem.W.S.findZ by PySem.W.S.findZ_eq
name_quick tw17888162413812561239 for PySem.W.S.findZ by PySem.W.S.findZ_eq
name_quick tw3766158894648301139 for PySem.W.S.findZ by PySem.W.S.findZ_eq
name_quick tw14896874001708588922 for PySem.W.S.findZ by PySem.W.S.findZ_eq
name_quick tw3698559305507148144 for PySem.W.S.findZ by PySem.W.S.findZ_eq
name_quick tw11853533878840232495 for PySem.W.S.findZ by PySem.W.S.findZ_eq
name_quick tw7397068168572129948 for PySem.W.S.findZ by PySem.W.S.findZ_eq
name_quick tw14168537005229113720 for PySem.W.S.findZ by PySem.W.S.findZ_eq
name_quick tw9763268239775435451 for PySem.W.S.findZ by PySem.W.S.findZ_eq
name_quick tw2334299552400917057 for PySem.W.S.findZ by PySem.W.S.findZ_eq
name_quick tw721709456127091705 for PySem.W.S.findZ by PySem.W.S.findZ_eq
name_quick tw12329403913580668285 for PySem.W.S.findZ by PySem.W.S.findZ_eq
name_quick tw8017206721242287953 for PySem.W.S.findZ by PySem.W.S.findZ_eq
name_quick tw1503297043503765363 for PySem.W.S.findZ by PySem.W.S.findZ_eq
name_quick tw17100903815162463580 for PySem.W.S.findZ by PySem.W.S.findZ_eq
name_quick tw9948023125614773506 for PySem.W.S.findZ by PySem.W.S.findZ_eq
name_quick tw17434858337260393937 for PySem.W.S.findZ by PySem.W.S.findZ_eq
name_quick tw12635813782599140982 for PySem.W.S.findZ by PySem.W.S.findZ_eq
name_quick tw15480198773659482676 for PySem.W.S.findZ by PySem.W.S.findZ_eq
name_quick tw17018628822417861297 for PySem.W.S.findZ by PySem.W.S.findZ_eq
name_quick tw17274371674624000324 for PySem.W.S.findZ by PySem.W.S.findZ_eq
name_quick tw2283851925072248500 for PySem.W.S.findZ by PySem.W.S.findZ_eq
name_quick tw13002492023102617099 for PySem.W.S.findZ by PySem.W.S.findZ_eq
name_quick tw3972328310683599613 for PySem.W.S.findZ by PySem.W.S.findZ_eq
name_quick tw15112985482279097393 for PySem.W.S.findZ by PySem.W.S.findZ_eq
name_quick tw10314498396905981064 for PySem.W.S.findZ by PySem.W.S.findZ_eq
name_quick tw12290603225136948437 for PySem.W.S.findZ by PySem.W.S.findZ_eq
name_quick tw1829445100760108279 for PySem.W.S.findZ by PySem.W.S.findZ_eq
name_quick tw17804436615005485693 for PySem.W.S.findZ by PySem.W.S.findZ_eq
name_quick tw15560500314895047343 for PySem.W.S.findZ by PySem.W.S.findZ_eq
name_quick tw11889939097179343393 for PySem.W.S.findZ by PySem.W.S.findZ_eq
name_quick tw15946687931594495746 for PySem.W.S.findZ by PySem.W.S.findZ_eq
name_quick tw11500935155912984676 for PySem.W.S.findZ by PySem.W.S.findZ_eq
name_quick tw17640052667945600645 for PySem.W.S.findZ by PySem.W.S.findZ_eq
name_quick tw10346894026039390216 for PySem.W.S.findZ by PySem.W.S.findZ_eq
name_quick tw17111948838632640456 for PySem.W.S.findZ by PySem.W.S.findZ_eq
name_quick tw3654811284935004297 for PySem.W.S.findZ by PySem.W.S.findZ_eq
name_quick tw13480552361792772618 for PySem.W.S.findZ by PySem.W.S.findZ_eq
name_quick tw14979626087600564940 for PySem.W.S.findZ by PySem.W.S.findZ_eq
name_quick tw18323700119837366958 for PySem.W.S.findZ by PySem.W.S.findZ_eq
name_quick tw11502282260701905712 for PySem.W.S.findZ by PySem.W.S.findZ_eq
name_quick tw8075568018651887793 for PySem.W.S.findZ by PySem.W.S.findZ_eq
name_quick tw9338340134111610513 for PySem.W.S.findZ by PySem.W.S.findZ_eq
name_quick tw14060403864292698165 for PySem.W.S.findZ by PySem.W.S.findZ_eq
name_quick tw16961233145329683797 for PySem.W.S.findZ by PySem.W.S.findZ_eq
name_quick tw12122571135941518997 for PySem.W.S.findZ by PySem.W.S.findZ_eq
name_quick tw17988542015724977305 for PySem.W.S.findZ by PySem.W.S.findZ_eq
name_quick tw6957269047217186779 for PySem.W.S.findZ by PySem.W.S.findZ_eq
name_quick tw13215998728584607739 for PySem.W.S.findZ by PySem.W.S.findZ_eq
name_quick tw15194872280508774684 for PySem.W.S.findZ by PySem.W.S.findZ_eq
name_quick tw6448080314894763839 for PySem.W.S.findZ by PySem.W.S.findZ_eq
name_quick tw751483947787637714 for PySem.W.S.findZ by PySem.W.S.findZ_eq
set_option maxRecDepth 100000 in
set_option maxHeartbeats 8000000 in
open_top hd for PySem.Challenge.rw_xm0820_01

noncomputable abbrev VW : Program := Mine.hd.view_39
noncomputable abbrev LO : List Str := looseW Mine.hd.view_39 []


noncomputable def Keeps (A : List Addr) (h h' : Heap) : Prop := ∀ b o, h.get? b = some o → b ∉ A → h'.get? b = some o

/-- what a call of the def at f with vs does over the ledger A: it comes back with a value and a ledger of Ret, all else stands -/
noncomputable def Ctr (prog : Program) (w : World) (mean : ExcName → Option Value) (mg mb : Str → Option Value) (f : Addr) (d u : Nat) (vs : List Value) (A : List (Addr × Obj)) (Ret : Value → List (Addr × Obj) → Prop) : Prop :=
  ∀ (dp un : Nat) (gd : Option (List Code)) (cn : Str) (cs : Scope) (a : Addr) (ccd : Value) (cl : List (Str × Addr)) (outer : List Env) (A₀ : Around) (base h₀ : Heap) (L : Addr) (m : Str → Option Value) (s : Shared) (Q E : Value → Shared → Prop),
    Below A₀ base outer h₀ → Fr h₀ L s.heap m → (Mine.hd.heap_39 w.params).In h₀ → News h₀ L s.heap A → Top VW LO mean mg mb h₀ → cs.kind = .function → dp + d < recursionLimit → un + u < cLine →
    (∀ v B h' tk', Ret v B → Fr h₀ L h' m → News h₀ L h' B → Keeps (A.map (·.1)) s.heap h' → Q v { s with heap := h', toks := tk' }) →
    wpAny (model prog w) (ktrTop dp un gd cn cs L a ccd cl outer) (call (.ref f) vs) Q E s

theorem Ctr.use {prog : Program} {w : World} {mean : ExcName → Option Value} {mg mb : Str → Option Value} {f : Addr} {d u : Nat} {vs : List Value} {A : List (Addr × Obj)} {Ret : Value → List (Addr × Obj) → Prop} (C : Ctr prog w mean mg mb f d u vs A Ret)
    {dp un : Nat} {gd : Option (List Code)} {cn : Str} {cs : Scope} {a : Addr} {ccd : Value} {cl : List (Str × Addr)} {outer : List Env} {A₀ : Around} {base h₀ : Heap} {L : Addr} {m : Str → Option Value} {s : Shared} {Q E : Value → Shared → Prop}
    (k1 : Below A₀ base outer h₀) (k2 : Fr h₀ L s.heap m) (k3 : (Mine.hd.heap_39 w.params).In h₀) (k4 : News h₀ L s.heap A) (k5 : Top VW LO mean mg mb h₀) (k6 : cs.kind = .function) (k7 : dp + d < recursionLimit) (k8 : un + u < cLine)
    (hret : ∀ v B h' tk', Ret v B → Fr h₀ L h' m → News h₀ L h' B → Keeps (A.map (·.1)) s.heap h' → Q v { s with heap := h', toks := tk' }) :
    wpAny (model prog w) (ktrTop dp un gd cn cs L a ccd cl outer) (call (.ref f) vs) Q E s := C _ _ _ _ _ _ _ _ _ _ _ _ _ _ _ _ _ k1 k2 k3 k4 k5 k6 k7 k8 hret
section
variable {prog : Program} {w : World} {A A₀ : Around} {E : Value → Shared → Prop} {s : Shared} {K : Frag} {C L : Addr} {h₀ base : Heap} {m mg mb : Str → Option Value} {news : List (Addr × Obj)} {p : Program} {loose : List Str} {mean : ExcName → Option Value} {Q : Value → Shared → Prop}

theorem code_defR {env : Env} {outer : List Env} {R : Result → Shared → Prop} {name qual : Str} {params : Arguments} {body : List Stmt} {scope : Scope} {dV kV doc pm cdv ct oc : Value} {an od : Option Addr} {osl : Array (Option Value)} {f : Addr} {args : Args} {binds : List (Str × Value)}
    (B : Below A₀ base outer h₀) (F : Fr h₀ L s.heap m) (X₀ : K.In h₀) (N : News h₀ L s.heap news) (T : Top p loose mean mg mb h₀) (hA : A.frames = some (env :: outer)) (hf : env.frame = some L) (hke : env.scope.kind = .function)
    (ho : K.lookup f = some ⟨oc, od, .func (fnOf name qual params body scope dV kV doc pm an cdv ct), osl⟩) (hcd : codeIn K cdv qual = true) (hroom : A.depth < recursionLimit)
    (hbind : BindsTo s (fnOf name qual params body scope dV kV doc pm an cdv ct) args binds) (hloc : ∀ y ∈ binds, scope.names.lookup y.1 = some .local)
    (h : ∀ g L' h₁, Keeps (news.map (·.1)) s.heap g → Fr h₀ L g m → Fr g L' h₁ (fun y => binds.reverse.lookup y) → News g L' h₁ news → Below A base (env :: outer) g → K.In g → Top p loose mean mg mb g → (∀ p ∈ news, p.1 < L') →
      wpAny (model prog w) (A.deeper (envOf qual scope L' f cdv)) (execs body (envOf qual scope L' f cdv))
        (fun fl s' => LeaveK h₀ L m g R (match fl with | .ret v => v | _ => .none) s')
        (fun e s' => wpAny (model prog w) (A.deeper (envOf qual scope L' f cdv)) (leaving (envOf qual scope L' f cdv) e) (fun _ s'' => R (.error e) s'') (fun e' s'' => R (.error e') s'') s')
        { s with heap := h₁, toks := s.toks + binds.length })
    (hco : scope.isCoroutine = false) (hgen : scope.isGenerator = false) (hk : scope.kind = .function)
    (hcell : ∀ x ∈ scope.names, x.2 ≠ .cell) : codeAny (model prog w) A (.call (.ref f) args) R s := by
  obtain ⟨FG, BG, st, lv⟩ := groundX (R := R) B F N hA hf hke
  have X := X₀.keeps F.keep
  refine codeAny_call_def (fd := fnX name qual params body scope [] dV kV doc pm an cdv ct) (body := body) (binds := binds) hroom (X _ _ ho) rfl (T.nolimit.keeps F.keep) (codeRec_of X hcd) rfl hbind hcell hloc (fun h₁ hns hk₁ => ?_) hco hgen hk
  exact wpAny_mono (h _ s.heap.objs.size h₁ (fun b o e hb => hideAll_get _ e hb) FG ⟨hns, fun b o e => hk₁ b o (of_hideAll _ e), Nat.le_of_eq (hideAll_size _ _)⟩
    (fun p hp => ⟨hk₁ _ _ (N p hp).1, Nat.ne_of_lt (Heap.lt_size (N p hp).1), hideAll_none _ (List.mem_map_of_mem hp)⟩) BG (X₀.keeps st) (T.keeps st) (fun p hp => Heap.lt_size (N p hp).1)) (fun fl s' hl => lv _ _ hl) fun _ _ y => y
end

/-- the ledger of the caller behind a call over a part of it -/
theorem news_after {h₀ h h' : Heap} {L : Addr} {news news' A B : List (Addr × Obj)} (N : News h₀ L h news) (NB : News h₀ L h' B) (K : Keeps (A.map (·.1)) h h')
    (e : ∀ p ∈ news', p ∈ B ∨ (p ∈ news ∧ p.1 ∉ A.map (·.1))) : News h₀ L h' news' := fun p hp => by
  rcases e p hp with q | ⟨q, nq⟩
  · exact NB p q
  · exact ⟨K _ _ (N p q).1 nq, (N p q).2⟩

theorem Keeps.trans {A : List Addr} {h h' h'' : Heap} (a : Keeps A h h') (b : Keeps A h' h'') : Keeps A h h'' := fun x o e n => b x o (a x o e n) n
theorem Keeps.of_fr {A : List Addr} {h g h' : Heap} {L' : Addr} {m' : Str → Option Value} (a : Keeps A h g) (F : Fr g L' h' m') : Keeps A h h' := fun b o e n => F.keep b o (a b o e n)


section
variable {α β : Type} {M : Model} {A : Around} {E : Value → Shared → Prop} {s : Shared} {env : Env}

theorem wpC.MethodCall {o : PySem.Expr} {name : Str} {apos pos : Pos} {args : List PySem.Expr} {pl : Sem Bool} {Q : Value → Shared → Prop}
    (h : wpAny M A (eval o env) (fun ov s₁ => wpAny M A (getMethod ov name pl) (fun fx s₂ => wpC M A (callWith pos fx.1 fx.2 (backTo pos (starEach args env)) []) Q E s₂) E s₁) E s)
    (he : eval (.Call (.Attribute o name apos) args [] pos) env = (do
      let ov ← eval o env
      PySem.standAt apos.atName
      let (f, first) ← PySem.holding [ov] (getMethod ov name pl)
      callWith pos f first (backTo pos (starEach args env)) []) := by rfl) :
    wpC M A (eval (.Call (.Attribute o name apos) args [] pos) env) Q E s := by
  rw [he]
  refine .bindL (wpAny_mono h (fun ov s₁ h₁ => .standAt (.bindL (wpAny_holding (wpAny_mono h₁ (fun fx s₂ h₂ => ?_) fun _ _ x => x)))) fun _ _ x => x)
  exact h₂

theorem wpC.CallName {func : PySem.Expr} {args : List PySem.Expr} {pos : Pos} {Q : Value → Shared → Prop}
    (h : wpAny M A (eval func env) (fun f s₁ => wpC M A (callWith pos f [] (backTo pos (starEach args env)) []) Q E s₁) E s)
    (he : eval (.Call func args [] pos) env = (do callWith pos (← eval func env) [] (backTo pos (starEach args env)) (backToKw pos (keywordEach [] env))) := by rfl) :
    wpC M A (eval (.Call func args [] pos) env) Q E s := by
  rw [he]
  exact .bindL h

theorem wpC.spliced_nil {Q : List Value → Shared → Prop} (h : Q [] s) : wpC M A (spliced []) Q E s := .pure h
theorem wpC.spliced_cons {x : Sem Value} {rest : List (Bool × Sem Value)} {Q : List Value → Shared → Prop}
    (h : wpC M A x (fun v s₁ => wpC M A (spliced rest) (fun vs s₂ => Q (v :: vs) s₂) E s₁) E s) : wpC M A (spliced ((false, x) :: rest)) Q E s := by
  rw [spliced]
  refine .bind (h.mono (fun v s₁ h₁ => ?_) fun _ _ x => x)
  simp only [Bool.false_eq_true, if_false]
  exact .bindL (wpAny_pure (.bind (.holding (h₁.mono (fun vs s₂ h₂ => .pure h₂) fun _ _ x => x))))
theorem wpC.args_nil {pos : Pos} {Q : List Value → Shared → Prop} (h : Q [] s) : wpC M A (spliced (backTo pos (starEach [] env))) Q E s := .spliced_nil h
theorem wpC.args_cons {e : PySem.Expr} {rest : List PySem.Expr} {pos : Pos} {Q : List Value → Shared → Prop}
    (h : wpC M A (eval e env) (fun v s₁ => wpC M A (spliced (backTo pos (starEach rest env))) (fun vs s₂ => Q (v :: vs) s₂) E s₁) E s)
    (he : starEach (e :: rest) env = (false, eval e env) :: starEach rest env := by rfl) : wpC M A (spliced (backTo pos (starEach (e :: rest) env))) Q E s := by
  rw [he]; exact .spliced_cons h
theorem wpC.evalArgs_plain {f : Value} {x : Sem Value} {rest : List (Bool × Sem Value)} {Q : Args → Shared → Prop}
    (h : wpC M A (spliced ((false, x) :: rest)) (fun vs s' => Q ⟨vs, []⟩ s') E s) : wpC M A (evalArgs f true ((false, x) :: rest) []) Q E s := by
  unfold evalArgs
  show wpC M A (spliced ((false, x) :: rest) >>= _) Q E s
  refine .bind (h.mono (fun vs s' h' => ?_) fun _ _ x => x)
  refine .holding ?_
  exact .bindL (wpAny_pure (.bindL (wpAny_pure (.pure h'))))

theorem wpC.callWith_of {P : Heap → Prop} {pos : Pos} {f : Value} {first : List Value} {args : List (Bool × Sem Value)} {Q : Value → Shared → Prop} (hplain : args.any (·.1) = false)
    (hk : ∀ h, P h → ∃ k, (k = Keeper.frame ∨ k = Keeper.machine ∨ k = Keeper.boundFrame) ∧ Looks M h (keeperOf f) k)
    (h : wpC M A (evalArgs f true args []) (fun a s₁ => P s₁.heap ∧ wpC M A (PySem.call f (first ++ a.pos) a.kw) Q E s₁) E s) : wpC M A (callWith pos f first args []) Q E s := by
  unfold callWith
  refine .bind (.holding (h.mono (fun a s₁ h₁ => .standAt ?_) fun _ _ x => x))
  obtain ⟨k, hk', L⟩ := hk _ h₁.1
  simp only [hplain, List.any_nil, Bool.or_false]
  refine .bindL (L.here ?_)
  have tail : ∀ {t : Sem Value}, wpC M A t Q E s₁ → wpC M A (t >>= fun r => PySem.holding [r] point >>= fun _ => Pure.pure r) Q E s₁ :=
    fun ht => .bind (ht.mono (fun r s₂ hr => .bindL (wpAny_holding (wpAny_point (.pure hr)))) fun _ _ x => x)
  have marked (mk : Value) : wpC M A (callMarked mk f (first ++ a.pos) a.kw) Q E s₁ := by unfold callMarked; exact .keep h₁.2
  rcases hk' with rfl | rfl | rfl <;> dsimp only <;> first | exact tail h₁.2 | (split <;> first | exact tail h₁.2 | exact tail (marked _))

theorem wpC.callWith_K {K : Frag} {pos : Pos} {f : Value} {first : List Value} {e : PySem.Expr} {rest : List PySem.Expr} {Q : Value → Shared → Prop} (hk : keepIn K f = true)
    (h : wpC M A (spliced (backTo pos (starEach (e :: rest) env))) (fun vs s₁ => K.In s₁.heap ∧ wpC M A (PySem.call f (first ++ vs)) Q E s₁) E s)
    (he : starEach (e :: rest) env = (false, eval e env) :: starEach rest env := by rfl) (hplain : (backTo pos (starEach rest env)).any (·.1) = false := by rfl) :
    wpC M A (callWith pos f first (backTo pos (starEach (e :: rest) env)) []) Q E s := by
  rw [he] at h ⊢
  exact wpC.callWith_of (P := K.In) (by show (false || (backTo pos (starEach rest env)).any (·.1)) = false; rw [hplain]; rfl) (keeps_K hk) (.evalArgs_plain h)
theorem wpC.callWith_KL {K : Frag} {pos : Pos} {f : Value} {first : List Value} {e : PySem.Expr} {rest : List PySem.Expr} {Q : Value → Shared → Prop} (hk : keepIn K f = true)
    (h : wpAny M A (spliced (backTo pos (starEach (e :: rest) env))) (fun vs s₁ => K.In s₁.heap ∧ wpC M A (PySem.call f (first ++ vs)) Q E s₁) E s)
    (he : starEach (e :: rest) env = (false, eval e env) :: starEach rest env := by rfl) (hplain : (backTo pos (starEach rest env)).any (·.1) = false := by rfl) :
    wpC M A (callWith pos f first (backTo pos (starEach (e :: rest) env)) []) Q E s := wpC.callWith_K hk (.of h) he hplain
theorem wpC.callWith_K0 {K : Frag} {pos : Pos} {f : Value} {first : List Value} {Q : Value → Shared → Prop} (X : K.In s.heap) (hk : keepIn K f = true) (h : wpC M A (PySem.call f (first ++ [])) Q E s) :
    wpC M A (callWith pos f first (backTo pos (starEach [] env)) []) Q E s :=
  wpC.callWith_of (P := K.In) rfl (keeps_K hk) (.of (evalArgs_nil3 ⟨X, h⟩))
end

section
variable {prog : Program} {w : World} {A A₀ : Around} {E : Value → Shared → Prop} {s : Shared} {K : Frag} {L : Addr} {h₀ base : Heap} {m mg mb : Str → Option Value} {news : List (Addr × Obj)} {p : Program} {loose : List Str} {mean : ExcName → Option Value}

theorem codeC.code_def {env : Env} {outer : List Env} {R : Result → Shared → Prop} {name qual : Str} {params : Arguments} {body : List Stmt} {scope : Scope} {dV kV doc pm cdv ct oc : Value} {an od : Option Addr} {osl : Array (Option Value)} {f : Addr} {args : Args} {binds : List (Str × Value)}
    (B : Below A₀ base outer h₀) (F : Fr h₀ L s.heap m) (X₀ : K.In h₀) (N : News h₀ L s.heap news) (T : Top p loose mean mg mb h₀) (hA : A.frames = some (env :: outer)) (hf : env.frame = some L) (hke : env.scope.kind = .function)
    (ho : K.lookup f = some ⟨oc, od, .func (fnOf name qual params body scope dV kV doc pm an cdv ct), osl⟩) (hcd : codeIn K cdv qual = true) (hroom : A.depth < recursionLimit)
    (hbind : BindsTo s (fnOf name qual params body scope dV kV doc pm an cdv ct) args binds) (hloc : ∀ y ∈ binds, scope.names.lookup y.1 = some .local)
    (h : ∀ g L' h₁, Keeps (news.map (·.1)) s.heap g → Fr h₀ L g m → Fr g L' h₁ (fun y => binds.reverse.lookup y) → News g L' h₁ news → Below A base (env :: outer) g → K.In g → Top p loose mean mg mb g → (∀ p ∈ news, p.1 < L') →
      wpC (model prog w) (A.deeper (envOf qual scope L' f cdv)) (execs body (envOf qual scope L' f cdv))
        (fun fl s' => LeaveK h₀ L m g R (match fl with | .ret v => v | _ => .none) s') (fun _ _ => False) { s with heap := h₁, toks := s.toks + binds.length })
    (hco : scope.isCoroutine = false) (hgen : scope.isGenerator = false) (hk : scope.kind = .function)
    (hcell : ∀ x ∈ scope.names, x.2 ≠ .cell) : codeC (model prog w) A (.call (.ref f) args) R s := by
  obtain ⟨FG, BG, st, lv⟩ := groundX (R := R) B F N hA hf hke
  have X := X₀.keeps F.keep
  refine codeC.call_def (fd := fnX name qual params body scope [] dV kV doc pm an cdv ct) (body := body) (binds := binds) hroom (X _ _ ho) rfl (T.nolimit.keeps F.keep) (codeRec_of X hcd) rfl hbind hcell hloc (fun h₁ hns hk₁ => ?_) hco hgen hk
  exact (h _ s.heap.objs.size h₁ (fun b o e hb => hideAll_get _ e hb) FG ⟨hns, fun b o e => hk₁ b o (of_hideAll _ e), Nat.le_of_eq (hideAll_size _ _)⟩
    (fun p hp => ⟨hk₁ _ _ (N p hp).1, Nat.ne_of_lt (Heap.lt_size (N p hp).1), hideAll_none _ (List.mem_map_of_mem hp)⟩) BG (X₀.keeps st) (T.keeps st) (fun p hp => Heap.lt_size (N p hp).1)).mono (fun fl s' hl => lv _ _ hl) fun _ _ y => y

/-- a while by an invariant and a measure; the test is the library's to walk, the body ours -/
theorem wpC.While {env : Env} {test : PySem.Expr} {body : List Stmt} {pos : Pos} {Q : Flow → Shared → Prop} (I : Nat → Shared → Prop) {n₀ : Nat} (h0 : I n₀ s)
    (turn : ∀ n s₁, I n s₁ → let P9 : Flow → Shared → Prop := fun f s₃ => match f with | .next | .cont => ∃ k, k < n ∧ I k s₃ | .brk => Q .next s₃ | .ret v => Q (.ret v) s₃; wpAny (model prog w) A (isTrue test env (eval test env)) (fun b s₂ =>
        if b = true then wpC (model prog w) A (execs body env) P9 (fun _ _ => False) s₂
        else Q .next s₂) (fun _ _ => False) s₁) :
    wpC (model prog w) A (exec (.While test body [] pos) env) Q E s := by
  rw [exec_While]
  refine .standAt (.runOwn rfl ?_)
  induction n₀ using Nat.strongRecOn generalizing s with
  | ind n ih =>
    refine .tree ?_
    show wpC _ A ((whileTurn test body [] env).onRaise (fun x => do noteFrame x env; theTreesLotGoes x)) _ _ s
    refine .onRaise ?_
    simp only [whileTurn]
    refine .bindL (wpAny_mono (turn n s h0) (fun b s₂ h₂ => ?_) fun _ _ x => x)
    cases b with
    | false =>
      simp only [Bool.false_eq_true, if_false] at h₂ ⊢
      exact .bind (.execs_nil (.pure h₂))
    | true =>
      simp only [if_true] at h₂ ⊢
      refine .bind (h₂.mono (fun f s₃ h₃ => ?_) fun _ _ x => x)
      cases f with
      | next => obtain ⟨k, hk, hI⟩ := h₃; exact .pure ⟨rfl, rfl, ih k hk hI⟩
      | cont => obtain ⟨k, hk, hI⟩ := h₃; exact .pure ⟨rfl, rfl, ih k hk hI⟩
      | brk => exact .pure h₃
      | ret v => exact .pure h₃
end
namespace BA
open Builtin


theorem slot_len : Slot "bytearray" "__len__" "bytearray.__len__" :=
  .of (owner := "bytearray") (n := "__len__") (by rw [typeLookup_type, builtinLookup_eq_fast]; kernel_rfl) (by decide +kernel) (by decide +kernel) (by decide +kernel)
    (by first | exact .inl (by decide +kernel) | exact .inr (by decide +kernel)) (by rw [isSubtype_type]; kernel_rfl)
theorem entry_len : entryFor table "bytearray.__len__" = some Builtin.«bytearray.__len__» := entryFor_of_tree (by kernel_rfl)
theorem args_len (a : Value) : argsOk "bytearray.__len__" ⟨[a], []⟩ := by unfold argsOk; kernel_rfl
theorem slot_getitem : Slot "bytearray" "__getitem__" "bytearray.__getitem__" :=
  .of (owner := "bytearray") (n := "__getitem__") (by rw [typeLookup_type, builtinLookup_eq_fast]; kernel_rfl) (by decide +kernel) (by decide +kernel) (by decide +kernel)
    (by first | exact .inl (by decide +kernel) | exact .inr (by decide +kernel)) (by rw [isSubtype_type]; kernel_rfl)
theorem entry_getitem : entryFor table "bytearray.__getitem__" = some Builtin.«bytearray.__getitem__» := entryFor_of_tree (by kernel_rfl)
theorem args_getitem (a b : Value) : argsOk "bytearray.__getitem__" ⟨[a, b], []⟩ := by unfold argsOk; kernel_rfl
theorem slot_setitem : Slot "bytearray" "__setitem__" "bytearray.__setitem__" :=
  .of (owner := "bytearray") (n := "__setitem__") (by rw [typeLookup_type, builtinLookup_eq_fast]; kernel_rfl) (by decide +kernel) (by decide +kernel) (by decide +kernel)
    (by first | exact .inl (by decide +kernel) | exact .inr (by decide +kernel)) (by rw [isSubtype_type]; kernel_rfl)
theorem entry_setitem : entryFor table "bytearray.__setitem__" = some Builtin.«bytearray.__setitem__» := entryFor_of_tree (by kernel_rfl)
theorem args_setitem (a b c : Value) : argsOk "bytearray.__setitem__" ⟨[a, b, c], []⟩ := by unfold argsOk; kernel_rfl
theorem slot_ne : Slot "bytearray" (cmpInfo .NotEq).2.1 "bytearray.__ne__" :=
  .of (owner := "bytearray") (n := "__ne__") (by rw [typeLookup_type, builtinLookup_eq_fast]; kernel_rfl) (by decide +kernel) (by decide +kernel) (by decide +kernel)
    (by first | exact .inl (by decide +kernel) | exact .inr (by decide +kernel)) (by rw [isSubtype_type]; kernel_rfl)
theorem entry_ne : entryFor table "bytearray.__ne__" = some Builtin.«bytearray.__ne__» := entryFor_of_tree (by kernel_rfl)
theorem args_ne (a b : Value) : argsOk "bytearray.__ne__" ⟨[a, b], []⟩ := by unfold argsOk; kernel_rfl
theorem slot_append : Slot "bytearray" "append" "bytearray.append" :=
  .of (owner := "bytearray") (n := "append") (by rw [typeLookup_type, builtinLookup_eq_fast]; kernel_rfl) (by decide +kernel) (by decide +kernel) (by decide +kernel)
    (by first | exact .inl (by decide +kernel) | exact .inr (by decide +kernel)) (by rw [isSubtype_type]; kernel_rfl)
theorem entry_append : entryFor table "bytearray.append" = some Builtin.«bytearray.append» := entryFor_of_tree (by kernel_rfl)
theorem args_append (a b : Value) : argsOk "bytearray.append" ⟨[a, b], []⟩ := by unfold argsOk; kernel_rfl
theorem type_append : typeOf (.builtin "bytearray.append") = pure (.type "method_descriptor") := by show builtinType _ = _; rw [builtinType_eq_fast]; kernel_rfl
theorem slot_pop : Slot "bytearray" "pop" "bytearray.pop" :=
  .of (owner := "bytearray") (n := "pop") (by rw [typeLookup_type, builtinLookup_eq_fast]; kernel_rfl) (by decide +kernel) (by decide +kernel) (by decide +kernel)
    (by first | exact .inl (by decide +kernel) | exact .inr (by decide +kernel)) (by rw [isSubtype_type]; kernel_rfl)
theorem entry_pop : entryFor table "bytearray.pop" = some Builtin.«bytearray.pop» := entryFor_of_tree (by kernel_rfl)
theorem args_pop (a : Value) : argsOk "bytearray.pop" ⟨[a], []⟩ := by unfold argsOk; kernel_rfl
theorem type_pop : typeOf (.builtin "bytearray.pop") = pure (.type "method_descriptor") := by show builtinType _ = _; rw [builtinType_eq_fast]; kernel_rfl
theorem plain : PlainAttrs "bytearray" :=
  ⟨⟨"bytearray.__getattribute__", by rw [typeLookup_type, builtinLookup_eq_fast]; kernel_rfl, by decide +kernel⟩, by rw [typeLookup_type, builtinLookup_eq_fast]; kernel_rfl⟩

noncomputable abbrev obj (l : List Int) : Obj := { cls := .type "bytearray", data := .bytearray (byteArr l) }
theorem typeIs {s : Shared} {f : Addr} {l : List Int} (h : s.heap.get? f = some (obj l)) : s.TypeIs (.ref f) "bytearray" := ⟨_, h, rfl⟩

theorem arr_get {l : List Int} {i : Nat} (hi : i < l.length) (hb : ∀ x ∈ l, 0 ≤ x ∧ x < 256) : ∃ c, (byteArr l)[i]? = some c ∧ (c.toNat : Int) = l.getD i 0 := by
  have hx := hb l[i] (List.getElem_mem hi)
  refine ⟨(l[i]).toNat.toUInt8, by simp [byteArr, hi], ?_⟩
  have e : l.getD i 0 = l[i] := by simp [List.getD, hi]
  rw [e]
  have : (l[i]).toNat < 256 := by (first | lia | omega)
  have h2 : ((l[i]).toNat.toUInt8).toNat = (l[i]).toNat := by
    simp only [Nat.toUInt8, UInt8.toNat_ofNat']
    (first | lia | omega)
  rw [h2]; (first | lia | omega)

section
variable {prog : Program} {w : World} {A : Around} {E : Value → Shared → Prop} {s : Shared} {f : Addr} {l : List Int}

theorem payload {Q : Array UInt8 → Shared → Prop} (h : s.heap.get? f = some (obj l)) (hq : Q (byteArr l) s) : wpAny (model prog w) A (Bytes.payload (.ref f)) Q E s := by
  unfold Bytes.payload Bytes.payload?
  refine wpAny_bind (wpAny_bind (wpAny_load h ?_))
  exact wpAny_pure (wpAny_pure hq)

theorem subscript {k : Int} {t : Tok} {Q : Option Int → Shared → Prop} (h0 : 0 ≤ k) (h1 : k < 2 ^ 63) (h : Q (some k) s) : wpAny (model prog w) A (Bytes.subscript? (.int k t)) Q E s := by
  unfold Bytes.subscript?
  refine wpAny_bind (wpAny_specialOf (T := "int") (typeIs_int s k t) int_index ?_)
  show wpAny _ A (asIndex (.int k t) >>= _) Q E s
  refine wpAny_bind (wpAny_of_eq (a := k) rfl ?_)
  have e : Bytes.fitsIndex k = true := by unfold Bytes.fitsIndex; simp only [Bool.and_eq_true, decide_eq_true_eq]; (first | lia | omega)
  show wpAny _ A (if (!Bytes.fitsIndex k) = true then _ else _) Q E s
  rw [e]
  exact wpAny_pure h

theorem getItem {k : Int} {t : Tok} {Q : Value → Shared → Prop} (h : s.heap.get? f = some (obj l)) (hb : ∀ x ∈ l, 0 ≤ x ∧ x < 256) (h0 : 0 ≤ k) (h1 : k < l.length) (hfit : l.length < 1000000)
    (hq : Q (.int (l.getD k.toNat 0) s.toks) { s with toks := s.toks + 1 }) : wpAny (model prog w) A (PySem.getItem (.ref f) (.int k t)) Q E s := by
  unfold PySem.getItem
  try with_reducible refine wpAny_holding ?_
  first | refine wpAny_bind (wpAny_pure ?_) | skip
  refine wpAny_bind (wpAny_sequenceKey (typeIs h) (by decide) ?_)
  refine wpAny_bind (wpAny_callSpecial?_slot (name := Str.ofString "__getitem__") (typeIs h) slot_getitem
    (wpAny_call_entry slot_getitem (typeIs h) entry_getitem ?_ (args_getitem _ _)))
  show wpAny _ _ (Bytes.subscript? (.int k t) >>= _) _ _ s
  refine wpAny_bind (subscript h0 (by (first | lia | omega)) ?_)
  refine wpAny_bind (payload h ?_)
  obtain ⟨c, hc, hv⟩ := arr_get (l := l) (i := k.toNat) (by (first | lia | omega)) hb
  have e : seqIndex? k (byteArr l).size = some k.toNat := seqIndex_of h0 (by rw [byteArr_size]; exact h1)
  simp only [e, Option.bind_some, hc]
  refine wpAny_bind (wpAny_mkInt ?_)
  refine wpAny_pure ⟨_, rfl, wpAny_pure ?_⟩
  rw [hv]
  exact hq
end
end BA
namespace BA
open Builtin

theorem look_buffer : typeLookup (.type "bytearray") "__buffer__" = pure (some (.builtin "bytearray.__buffer__")) := by rw [typeLookup_type, builtinLookup_eq_fast]; kernel_rfl
theorem look_release : typeLookup (.type "bytearray") "__release_buffer__" = pure (some (.builtin "bytearray.__release_buffer__")) := by rw [typeLookup_type, builtinLookup_eq_fast]; kernel_rfl
theorem look_bytes : typeLookup (.type "bytearray") "__bytes__" = pure none := by rw [typeLookup_type, builtinLookup_eq_fast]; kernel_rfl
theorem look_index : typeLookup (.type "bytearray") "__index__" = pure none := by rw [typeLookup_type, builtinLookup_eq_fast]; kernel_rfl
theorem ne_types : (Value.type "bytearray" != Value.type "bytes") = true := by decide

theorem byte_set (l : List Int) (i : Nat) (v : Int) : byteArr (l.set i v) = (byteArr l).setIfInBounds i v.toNat.toUInt8 := by
  unfold byteArr
  simp [List.map_set]
theorem byte_push (l : List Int) (v : Int) : byteArr (l ++ [v]) = (byteArr l).push v.toNat.toUInt8 := by
  unfold byteArr
  simp

section
variable {prog : Program} {w : World} {A : Around} {E : Value → Shared → Prop} {s : Shared} {f L : Addr} {l : List Int} {h₀ : Heap} {m : Str → Option Value} {news news' : List (Addr × Obj)}

theorem own {name : Str} {nm id : String} {Q : Bool → Shared → Prop} (h : s.heap.get? f = some (obj l)) (hn : name = (nm : Str)) (hl : typeLookup (.type "bytearray") name = pure (some (.builtin id)))
    (he : (!id.endsWith ("." ++ nm)) = false) (hd : id.dropRight (nm.length + 1) = "bytearray") (hq : Q true s) : wpAny (model prog w) A (Bytes.slotIsOwn (.ref f) nm) Q E s := by
  subst hn
  unfold Bytes.slotIsOwn
  refine wpAny_bind (wpAny_specialOf (typeIs h) hl ?_)
  dsimp only
  rw [he, if_neg Bool.false_ne_true, hd]
  exact wpAny_isInstance (T := "bytearray") (b := true) (typeIs h) PySem.F.isi_self_bytearray hq
theorem release {Q : Bool → Shared → Prop} (h : s.heap.get? f = some (obj l)) (hq : Q false s) : wpAny (model prog w) A (Bytes.ownRelease (.ref f)) Q E s := by
  unfold Bytes.ownRelease
  exact wpAny_bind (own h rfl look_release (by decide +kernel) (by decide +kernel) (wpAny_pure hq))
theorem buffer {id : String} {full : Bool} {Q : Option (Array UInt8) → Shared → Prop} (h : s.heap.get? f = some (obj l)) (hq : Q (some (byteArr l)) s) : wpAny (model prog w) A (Bytes.buffer? id (.ref f) full) Q E s := by
  unfold Bytes.buffer?
  refine wpAny_bind (wpAny_specialOf (typeIs h) look_buffer ?_)
  refine wpAny_bind (own h rfl look_buffer (by decide +kernel) (by decide +kernel) ?_)
  refine wpAny_bind (wpAny_specialOf (typeIs h) look_buffer ?_)
  refine wpAny_bind (release h ?_)
  exact wpAny_bind (payload h (wpAny_pure hq))

theorem len {Q : Value → Shared → Prop} (h : s.heap.get? f = some (obj l)) (hfit : l.length < 1000000) (hq : Q (.int (l.length : Nat) (s.toks + 1)) { s with toks := s.toks + 1 + 1 }) :
    wpAny (model prog w) A (PySem.call (.builtin "len") [.ref f]) Q E s := by
  refine call_function_entry kind_len plain_len PySem.entry_len (args_len1 _) ?_
  unfold Builtin.«len»
  refine wpAny_bind (m := oneArg "len" _) (wpAny_pure ?_)
  refine wpAny_bind (m := callSpecial? (.ref f) (Str.ofString "__len__")) (wpAny_callSpecial?_slot (name := Str.ofString "__len__") (typeIs h) slot_len
    (wpAny_call_entry slot_len (typeIs h) BA.entry_len ?_ (args_len _)))
  show wpAny _ _ (do retInt (← Bytes.payload (.ref f)).size) _ _ s
  refine wpAny_bind (payload h ?_)
  rw [byteArr_size]
  refine wpAny_bind (wpAny_mkInt (wpAny_pure ⟨_, rfl, ?_⟩))
  refine wpAny_bind (wpAny_holding (wpAny_pure ?_))
  refine wpAny_bind (wpAny_letGo ?_)
  show wpAny _ _ (if ((l.length : Nat) : Int) < 0 then _ else _) _ _ _
  rw [if_neg (by (first | lia | omega))]
  show wpAny _ _ (if ((l.length : Nat) : Int) ≥ 2 ^ 63 then _ else _) _ _ _
  rw [if_neg (by (first | lia | omega))]
  exact wpAny_bind (wpAny_mkInt (wpAny_pure ⟨_, rfl, hq⟩))

theorem byteValue {v : Int} {t : Tok} {Q : UInt8 → Shared → Prop} (h0 : 0 ≤ v) (h1 : v < 256) (hq : Q v.toNat.toUInt8 s) : wpAny (model prog w) A (Bytes.byteValue (.int v t)) Q E s := by
  unfold Bytes.byteValue
  refine wpAny_bind (wpAny_of_eq (a := v) rfl ?_)
  have e : (decide (v < 0) || decide (v ≥ 256)) = false := by simp only [Bool.or_eq_false_iff, decide_eq_false_iff_not]; (first | lia | omega)
  rw [e, if_neg Bool.false_ne_true]
  exact wpAny_pure hq

theorem write {g : Array UInt8 → Array UInt8} {l' : List Int} {Q : Unit → Shared → Prop} (F : Fr h₀ L s.heap m) (N : News h₀ L s.heap news) (U : Upd f (obj l) (obj l') news news') (e : g (byteArr l) = byteArr l') (hz : l'.length < 1000000)
    (hq : ∀ h', Fr h₀ L h' m → News h₀ L h' news' → Q () { s with heap := h' }) : wpAny (model prog w) A (Bytes.write (.ref f) g) Q E s := by
  obtain ⟨pre, post, rfl, rfl, a, b⟩ := U.split
  have h : s.heap.get? f = some (obj l) := (N (f, obj l) (by simp)).1
  show wpAny _ _ (updateBytearray f g) _ _ _
  unfold updateBytearray
  refine wpAny_bind (wpAny_load h ?_)
  show wpAny _ _ (update f (Obj.mapBytearray g) >>= fun _ => lookBehind f) _ _ _
  obtain ⟨F', N'⟩ := news_upd (f := Obj.mapBytearray g) (o' := obj l') F N a b (by show Obj.mk _ _ (.bytearray (g (byteArr l)) 0) _ = _; rw [e]) rfl
  refine wpAny_bind (wpAny_update h ?_)
  refine wpAny_lookBehind (o := obj l') (N' (f, obj l') (by simp)).1 ?_ (hq _ F' N')
  show (if (byteArr l').size > sizeLine then some "bytearray:memory" else none) = none
  rw [if_neg]
  rw [byteArr_size, sizeLine_eq]
  (first | lia | omega)

theorem setItem {k v : Int} {t u : Tok} {Q : Unit → Shared → Prop} (F : Fr h₀ L s.heap m) (N : News h₀ L s.heap news) (U : Upd f (obj l) (obj (l.set k.toNat v)) news news')
    (h0 : 0 ≤ k) (h1 : k < l.length) (hfit : l.length < 1000000) (v0 : 0 ≤ v) (v1 : v < 256)
    (hq : ∀ h', Fr h₀ L h' m → News h₀ L h' news' → Q () { s with heap := h' }) : wpAny (model prog w) A (PySem.setItem (.ref f) (.int k t) (.int v u)) Q E s := by
  have h : s.heap.get? f = some (obj l) := by
    obtain ⟨pre, post, rfl, rfl, a, b⟩ := U.split
    exact (N (f, obj l) (by simp)).1
  unfold PySem.setItem
  try with_reducible refine wpAny_holding ?_
  first | refine wpAny_bind (wpAny_pure ?_) | skip
  refine wpAny_bind (wpAny_sequenceKey (typeIs h) (by decide) ?_)
  refine wpAny_bind (wpAny_callSpecial?_slot (name := Str.ofString "__setitem__") (typeIs h) slot_setitem
    (wpAny_call_entry slot_setitem (typeIs h) entry_setitem ?_ (args_setitem _ _ _)))
  show wpAny _ _ (Bytes.subscript? (.int k t) >>= _) _ _ s
  refine wpAny_bind (subscript h0 (by (first | lia | omega)) ?_)
  refine wpAny_bind (byteValue v0 v1 ?_)
  refine wpAny_bind (payload h ?_)
  have e : seqIndex? k (byteArr l).size = some k.toNat := seqIndex_of h0 (by rw [byteArr_size]; exact h1)
  rw [e]
  refine wpAny_bind (write F N U (byte_set ..).symm (by rw [List.length_set]; exact hfit) fun h' F' N' => ?_)
  exact wpAny_pure ⟨_, rfl, wpAny_pure (hq h' F' N')⟩

theorem ne_empty {u : Tok} {Q : Value → Shared → Prop} (h : s.heap.get? f = some (obj l)) (hu : A.units < cLine) (hq : Q (.bool (decide (l ≠ []))) s) :
    wpAny (model prog w) A (compareOp .NotEq (.ref f) (.bytes #[] u)) Q E s := by
  show wpAny _ _ (richCompare .NotEq (.ref f) (.bytes #[] u)) _ _ _
  unfold richCompare
  simp only [oneThing_ref]
  refine wpAny_holding (wpAny_bind (wpAny_cRoomFor hu ?_))
  refine wpAny_bind (wpAny_typeOf (typeIs h) (wpAny_bind (wpAny_typeOf (typeIs_bytes s #[] u) ?_)))
  rw [ne_types, if_pos rfl]
  refine wpAny_bind (wpAny_of_eq F.sub_bytes_bytearray ?_)
  simp only [Bool.false_eq_true, if_false]
  refine wpAny_bind (wpAny_tryCompare_slot (typeIs h) slot_ne ?_)
  refine wpAny_call_entry slot_ne (typeIs h) entry_ne ?_ (args_ne _ _)
  show wpAny _ _ (Bytes.buffer? "bytearray.__ne__" (.ref f) >>= _) _ _ _
  refine wpAny_bind (buffer h ?_)
  refine wpAny_bind (wpAny_of_eq KBy.quiet_eq ?_)
  refine wpAny_pure ⟨_, rfl, by simp, ?_⟩
  refine wpAny_pure ?_
  have e : Bytes.holds "__ne__" (Bytes.order (byteArr l).toList (#[] : Array UInt8).toList) = decide (l ≠ []) := by
    cases l with
    | nil => rfl
    | cons x r => rfl
  rw [e]
  exact hq

/-- bytes(f) -/
theorem to_bytes {Q : Value → Shared → Prop} (h : s.heap.get? f = some (obj l)) (hfit : l.length < 1000000) (hq : ∀ t k, Q (.bytes (byteArr l) t) { s with toks := k }) :
    wpAny (model prog w) A (PySem.call (.type "bytes") [.ref f]) Q E s := by
  refine callType_codes (Q₁ := fun obj s₁ => s₁.TypeIs obj "bytes" ∧ Q obj s₁) F.bm_called (F.bm_typeCall _) F.entry_object_init ?_ fun obj s₁ h₁ =>
    ⟨h₁.1, F.args_object_init_2 obj _, object_init_meets F.bm_called.init.lookup F.bm_called.made (by decide) prog w A.in1 _ s₁ ⟨h₁.1, rfl, h₁.2⟩⟩
  refine codeAny_of_tree ?_
  show wpAny _ A.in1.in1 (do checkBuiltinCall "bytes.__new__" ⟨[.type "bytes", .ref f], []⟩; again (.builtin "bytes.__new__" ⟨[.type "bytes", .ref f], []⟩)) _ _ s
  refine wpAny_bind (wpAny_of_eq (F.bm_newCall _) (wpAny_pure ⟨plainId_quiet F.bm_plain _, codeAny_builtin F.bm_entry ?_⟩))
  rw [Around.under_plainId F.bm_plain _]
  unfold Builtin.«bytes.__new__»
  refine wpAny_bind (wpAny_of_eq (a := true) rfl ?_)
  refine bm_if_false rfl ?_
  refine wpAny_bind (wpAny_of_eq F.bm_sub ?_)
  refine bm_if_false rfl ?_
  refine wpAny_bind (wpAny_of_eq (F.bm_bind _) ?_)
  refine wpAny_bind (wpAny_of_eq (a := ()) rfl ?_)
  refine wpAny_bind (wpAny_of_eq (a := ()) rfl ?_)
  refine bm_if_false rfl ?_
  refine wpAny_bind (wpAny_specialOf (typeIs h) look_bytes ?_)
  refine wpAny_bind (wpAny_bind ?_)
  show wpAny _ _ (load f >>= _) _ _ _
  refine wpAny_bind (wpAny_load h ?_)
  refine wpAny_pure (wpAny_pure ?_)
  refine bm_if_false rfl ?_
  refine wpAny_bind (wpAny_specialOf (typeIs h) look_index ?_)
  refine bm_if_true rfl ?_
  first
    | show wpAny _ _ (Builtin.Bytes.buffer? "bytes.__new__" (.ref f) true >>= _) _ _ _
    | (refine wpAny_bind ?_; show wpAny _ _ (Builtin.Bytes.buffer? "bytes.__new__" (.ref f) true >>= _) _ _ _)
  refine wpAny_bind (buffer h ?_)
  refine wpAny_bind (wpAny_rule ?_)
  refine wpAny_bind (wpAny_mkBytes ?_ (by rw [byteArr_size, sizeLine_eq]; (first | lia | omega)))
  have fin : ∀ t k, wants (fun obj s₁ => s₁.TypeIs obj "bytes" ∧ Q obj s₁) E (.ok (.ret (.bytes (byteArr l) t))) { s with toks := k } := fun t k => ⟨PySem.W.typeIs_bytes _ _ _, hq t k⟩
  show wpAny _ _ (if (Value.type "bytes" == Value.type "bytes") = true then _ else _) _ _ _
  refine bm_if_true (by decide) ?_
  first
    | exact wpAny_pure (fin _ _)
    | exact wpAny_bind (wpAny_pure (wpAny_pure (fin _ _)))
    | exact wpAny_pure (wpAny_pure (fin _ _))

/-- f[-1] -/
theorem getItem_last {t : Tok} {Q : Value → Shared → Prop} (h : s.heap.get? f = some (obj l)) (hb : ∀ x ∈ l, 0 ≤ x ∧ x < 256) (h1 : 0 < l.length) (hfit : l.length < 1000000)
    (hq : Q (.int (l.getD (l.length - 1) 0) s.toks) { s with toks := s.toks + 1 }) : wpAny (model prog w) A (PySem.getItem (.ref f) (.int (-1) t)) Q E s := by
  unfold PySem.getItem
  try with_reducible refine wpAny_holding ?_
  first | refine wpAny_bind (wpAny_pure ?_) | skip
  refine wpAny_bind (wpAny_sequenceKey (typeIs h) (by decide) ?_)
  refine wpAny_bind (wpAny_callSpecial?_slot (name := Str.ofString "__getitem__") (typeIs h) slot_getitem
    (wpAny_call_entry slot_getitem (typeIs h) entry_getitem ?_ (args_getitem _ _)))
  show wpAny _ _ (Bytes.subscript? (.int (-1) t) >>= _) _ _ s
  have sub : ∀ {A : Around} {Q : Option Int → Shared → Prop}, Q (some (-1)) s → wpAny (model prog w) A (Bytes.subscript? (.int (-1) t)) Q E s := by
    intro A Q hq
    unfold Bytes.subscript?
    refine wpAny_bind (wpAny_specialOf (T := "int") (typeIs_int s (-1) t) int_index ?_)
    show wpAny _ A (asIndex (.int (-1) t) >>= _) Q E s
    refine wpAny_bind (wpAny_of_eq (a := (-1)) rfl ?_)
    show wpAny _ A (if (!Bytes.fitsIndex (-1)) = true then _ else _) Q E s
    rw [if_neg (by decide)]
    exact wpAny_pure hq
  refine wpAny_bind (sub ?_)
  refine wpAny_bind (payload h ?_)
  obtain ⟨c, hc, hv⟩ := arr_get (l := l) (i := l.length - 1) (by (first | lia | omega)) hb
  have e : seqIndex? (-1) (byteArr l).size = some (l.length - 1) := by
    unfold seqIndex?
    rw [byteArr_size]
    have e1 : ((-1 : Int) < 0) := by decide
    simp only [e1, if_true]
    have e2 : (decide (0 ≤ -1 + (l.length : Int)) && decide (-1 + (l.length : Int) < (l.length : Int))) = true := by simp only [Bool.and_eq_true, decide_eq_true_eq]; (first | lia | omega)
    rw [e2, if_pos rfl]
    congr 1
    (first | lia | omega)
  simp only [e, Option.bind_some, hc]
  refine wpAny_bind (wpAny_mkInt ?_)
  refine wpAny_pure ⟨_, rfl, wpAny_pure ?_⟩
  rw [hv]
  exact hq
end
end BA
section
variable {prog : Program} {w : World} {A : Around} {R : Result → Shared → Prop} {s : Shared}
theorem codeC.builtin {id : String} {args : Args} {b : Builtin} (hb : entryFor table id = some b)
    (h : wpC (model prog w) (A.under (.builtin id args)) (b args)
      (fun fin s' => match fin with | .done f => R (.ok f) s' | .again c' => c'.quiet = true ∧ free c' = true ∧ codeC (model prog w) A c' R s') (fun e s' => R (.error e) s') s) :
    codeC (model prog w) A (.builtin id args) R s := by
  refine .tree ?_
  show wpC _ _ (match entryFor table id with | some b => b args | none => unsupported ((withoutEnding? id "#data").getD id)) _ _ s
  rw [hb]; exact h
theorem codeC.call_builtin {id : String} {args : Args} {b : Builtin} (hq : (Code.builtin id args).quiet = true) (hf : free (.builtin id args) = true) (hb : entryFor table id = some b)
    (h : wpAny (model prog w) A.in1 (checkBuiltinCall id args) (fun _ s₁ => wpC (model prog w) (A.under (.builtin id args)) (b args)
      (fun fin s' => match fin with | .done f => R (.ok f) s' | .again c' => c'.quiet = true ∧ free c' = true ∧ codeC (model prog w) A c' R s') (fun e s' => R (.error e) s') s₁)
      (fun e s' => R (.error e) s') s) : codeC (model prog w) A (.call (.builtin id) args) R s := by
  refine .tree ?_
  show wpC _ A.in1 (do checkBuiltinCall id args; again (.builtin id args)) _ _ s
  exact .bindL (wpAny_mono h (fun _ s₁ h₁ => .pure ⟨hq, hf, .builtin hb h₁⟩) fun _ _ x => x)
end
namespace BA
open Builtin

theorem free_of {id : String} {args : Args} (h : holders.contains id = false) : free (.builtin id args) = true := by
  simp only [free, h, Bool.not_false]
theorem free_not {id : String} {args : Args} (h : free (.builtin id args) = true) (x : String) (hx : x ∈ holders) : id ≠ x := fun e => by
  subst e
  have : holders.contains id = true := List.contains_iff_mem.mpr hx
  simp only [free, this] at h
  exact Bool.false_ne_true h

section
variable {prog : Program} {w : World} {A : Around} {E : Value → Shared → Prop} {s : Shared} {f L : Addr} {l : List Int} {h₀ : Heap} {m : Str → Option Value} {news news' : List (Addr × Obj)}

theorem exported {M : Model} {v : Value} {Q : Bool → Shared → Prop} (hq : Q false s) : wpC M A (Bytes.exported v) Q E s := fun Γ p _ hC => by
  unfold Bytes.exported
  show Q (List.any ((Γ.code, p) :: Γ.below) _) s
  rw [List.any_eq_false.mpr]
  · exact hq
  · rintro ⟨c, q⟩ hx
    have hf : free c = true := by
      rcases List.mem_cons.mp hx with e | hx
      · cases e; exact hC.1
      · exact hC.2 _ hx
    cases c with
    | builtin id args =>
      obtain ⟨pos, kw⟩ := args
      have n1 : id ≠ "bytearray.__contains__" := free_not hf _ (by decide +kernel)
      have n2 : id ≠ "bytearray.__mod__" := free_not hf _ (by decide +kernel)
      have n3 : id ≠ "bytearray.__rmod__" := free_not hf _ (by decide +kernel)
      have n4 : id ≠ "_struct.pack_into.held" := free_not hf _ (by decide +kernel)
      have n5 : id ≠ "bytearray.find.held" := free_not hf _ (by decide +kernel)
      delta Bytes.exported.match_1
      show ¬ (dite (id = "bytearray.__contains__") _ _) = true
      rw [dif_neg n1, dif_neg n2, dif_neg n3, dif_neg n4, dif_neg n5]
      cases pos with
      | nil => exact Bool.false_ne_true
      | cons u tl =>
        have : Bytes.decodersThatHold.contains id = false := by
          cases hd : Bytes.decodersThatHold.contains id with
          | false => rfl
          | true => exact absurd rfl (free_not hf id (List.mem_append_right _ (List.contains_iff_mem.mp hd)))
        show ¬ (Bytes.sameRef u v && Bytes.decodersThatHold.contains id) = true
        rw [this, Bool.and_false]
        exact Bool.false_ne_true
    | _ => exact Bool.false_ne_true

theorem resize {Q : Unit → Shared → Prop} (h : s.heap.get? f = some (obj l)) (hq : Q () s) : wpC (model prog w) A (Bytes.checkResize (.ref f)) Q E s := by
  unfold Bytes.checkResize
  refine .bind ?_
  refine .bind (exported ?_)
  refine .bindL (m := Bytes.exportsOf (.ref f)) ?_
  unfold Bytes.exportsOf
  refine wpAny_bind (wpAny_load h (wpAny_pure ?_))
  exact .pure (.pure hq)

theorem append {c : Int} {t : Tok} {Q : Value → Shared → Prop} (F : Fr h₀ L s.heap m) (N : News h₀ L s.heap news) (U : Upd f (obj l) (obj (l ++ [c])) news news')
    (hfit : l.length < 900000) (v0 : 0 ≤ c) (v1 : c < 256) (hq : ∀ h', Fr h₀ L h' m → News h₀ L h' news' → Q .none { s with heap := h' }) :
    wpC (model prog w) A (PySem.call (.builtin "bytearray.append") [.ref f, .int c t]) Q E s := by
  have h : s.heap.get? f = some (obj l) := by
    obtain ⟨pre, post, rfl, rfl, a, b⟩ := U.split
    exact (N (f, obj l) (by simp)).1
  refine .call (.call_builtin (plainId_quiet slot_append.plain _) (free_of (by decide +kernel)) entry_append (slot_append.check _ _ _ _ _ _ _ _ (typeIs h) (args_append _ _) ?_))
  unfold Builtin.«bytearray.append»
  refine .bindL (m := selfAndOne "bytearray.append" _) (wpAny_pure ?_)
  refine .bindL (byteValue v0 v1 ?_)
  refine .bind (resize h ?_)
  refine .bindL (write F N U (byte_push ..).symm (by rw [List.length_append]; simp; (first | lia | omega)) fun h' F' N' => ?_)
  exact .pure (hq h' F' N')

theorem pop_byte {l : List Int} (h1 : 0 < l.length) : (byteArr l).eraseIdxIfInBounds (l.length - 1) = byteArr l.dropLast := by
  have e : l = l.dropLast ++ [l.getLast (by intro e; simp [e] at h1)] := (List.dropLast_concat_getLast _).symm
  apply Array.ext'
  rw [Array.toList_eraseIdxIfInBounds]
  unfold byteArr
  simp only [List.map_dropLast]
  rw [List.eraseIdx_eq_dropLast]
  simp; (first | lia | omega)

theorem pop {Q : Value → Shared → Prop} (F : Fr h₀ L s.heap m) (N : News h₀ L s.heap news) (U : Upd f (obj l) (obj l.dropLast) news news')
    (h1 : 0 < l.length) (hfit : l.length < 900000) (hb : ∀ x ∈ l, 0 ≤ x ∧ x < 256) (hq : ∀ h' i t k, Fr h₀ L h' m → News h₀ L h' news' → Q (.int i t) { s with heap := h', toks := k }) :
    wpC (model prog w) A (PySem.call (.builtin "bytearray.pop") [.ref f]) Q E s := by
  have h : s.heap.get? f = some (obj l) := by
    obtain ⟨pre, post, rfl, rfl, a, b⟩ := U.split
    exact (N (f, obj l) (by simp)).1
  refine .call (.call_builtin (plainId_quiet slot_pop.plain _) (free_of (by decide +kernel)) entry_pop (slot_pop.check _ _ _ _ _ _ _ _ (typeIs h) (args_pop _) ?_))
  unfold Builtin.«bytearray.pop»
  refine .bindL (m := selfAndSome "bytearray.pop" "pop" 0 1 _) (wpAny_pure ?_)
  refine .bindL (wpAny_pure ?_)
  refine .bindL (payload h ?_)
  have ne : (byteArr l).isEmpty = false := by rw [Array.isEmpty_eq_false_iff_exists_mem]; exact ⟨_, Array.getElem_mem (i := 0) (by rw [byteArr_size]; exact h1)⟩
  simp only [ne, Bool.false_eq_true, if_false]
  obtain ⟨c, hc, hv⟩ := arr_get (l := l) (i := l.length - 1) (by (first | lia | omega)) hb
  have e : seqIndex? (-1) (byteArr l).size = some (l.length - 1) := by
    unfold seqIndex?
    rw [byteArr_size]
    have e1 : ((-1 : Int) < 0) := by decide
    simp only [e1, if_true]
    have e2 : (decide (0 ≤ -1 + (l.length : Int)) && decide (-1 + (l.length : Int) < (l.length : Int))) = true := by simp only [Bool.and_eq_true, decide_eq_true_eq]; (first | lia | omega)
    rw [e2, if_pos rfl]
    congr 1
    (first | lia | omega)
  simp only [e, Option.bind_some, hc, Option.map_some]
  refine .bind (resize h ?_)
  refine .bindL (write F N U (pop_byte h1) (by rw [List.length_dropLast]; (first | lia | omega)) fun h' F' N' => ?_)
  exact .bindL (wpAny_mkInt (.pure (hq h' _ _ _ F' N')))
end
end BA
theorem wpC.ite0 {α : Type} {M : Model} {A : Around} {t e : Sem α} {Q : α → Shared → Prop} {E : Value → Shared → Prop} {s : Shared} (h : wpC M A e Q E s) : wpC M A (if false = true then t else e) Q E s := h
theorem wpC.iteF {α : Type} {M : Model} {A : Around} {b : Bool} {t e : Sem α} {Q : α → Shared → Prop} {E : Value → Shared → Prop} {s : Shared} (hb : b = false) (h : wpC M A e Q E s) : wpC M A (if b = true then t else e) Q E s := by subst hb; exact h
namespace BA
open Builtin

theorem mro_ba : mroOf (.type "bytearray") = pure [.type "bytearray", .type "object"] := by rw [mroOf_type]; kernel_rfl
theorem lookup_new : typeLookup (.type "bytearray") "__new__" = pure (some (.builtin "bytearray.__new__")) := by rw [typeLookup_type, builtinLookup_eq_fast]; kernel_rfl
theorem slot_init : Slot "bytearray" "__init__" "bytearray.__init__" :=
  .of (owner := "bytearray") (n := "__init__") (by rw [typeLookup_type, builtinLookup_eq_fast]; kernel_rfl) (by decide +kernel) (by decide +kernel) (by decide +kernel)
    (by first | exact .inl (by decide +kernel) | exact .inr (by decide +kernel)) (by rw [isSubtype_type]; kernel_rfl)
theorem entry_init : entryFor table "bytearray.__init__" = some Builtin.«bytearray.__init__» := entryFor_of_tree (by kernel_rfl)
theorem args_init (a : Value) : argsOk "bytearray.__init__" ⟨[a], []⟩ := by unfold argsOk; kernel_rfl
theorem called : TypeCalled "bytearray" "bytearray.__new__" "bytearray.__init__" :=
  ⟨by decide +kernel, by decide +kernel, ⟨_, _, mro_ba⟩, madeBy_type mro_ba lookup_new (by decide +kernel), by decide +kernel, by rw [isSubtype_type]; kernel_rfl, slot_init⟩
theorem typeCall : checkTypeCall "bytearray" ⟨[], []⟩ = pure () := by kernel_rfl
theorem newCall : checkBuiltinCall "bytearray.__new__" ⟨[.type "bytearray"], []⟩ = pure () := by kernel_rfl
theorem entry_new : entryFor table "bytearray.__new__" = some Builtin.«list.__new__» := entryFor_alias (id' := "list.__new__") (by kernel_rfl) rfl (by decide +kernel) (by kernel_rfl)
theorem plain_new : plainId "bytearray.__new__" = true := by decide +kernel
set_option maxRecDepth 1000000 in
set_option maxHeartbeats 4000000 in
theorem owner_new : ("bytearray.__new__".splitOn ".__new__").headD "" = "bytearray" := by simp +decide [String.splitOn, String.splitOnAux]
theorem bind_init : Builtin.Bytes.bindOptional "bytearray.__init__" "bytearray" ["source", "encoding", "errors"] [] [] = pure [none, none, none] := by kernel_rfl

section
variable {prog : Program} {w : World} {A : Around} {E : Value → Shared → Prop} {s : Shared} {f L : Addr} {l : List Int} {h₀ : Heap} {m : Str → Option Value} {news news' : List (Addr × Obj)}

theorem new_ {Q : Value → Shared → Prop} (h : Q (.ref s.heap.objs.size) { s with heap := s.heap.push { cls := .type "bytearray", data := .bytearray #[] } }) :
    wpAny (model prog w) A (PySem.call (.builtin "bytearray.__new__") [.type "bytearray"]) Q E s := by
  refine wpAny_call (codeAny_of_tree ?_)
  show wpAny _ A.in1 (do checkBuiltinCall "bytearray.__new__" ⟨[.type "bytearray"], []⟩; again (.builtin "bytearray.__new__" ⟨[.type "bytearray"], []⟩)) _ _ s
  refine wpAny_bind (wpAny_of_eq newCall (wpAny_pure ⟨plainId_quiet plain_new _, codeAny_builtin_stack entry_new rfl fun p st => ?_⟩))
  rw [Around.under_plainId plain_new _]
  have hsub := PySem.F.isi_self_bytearray
  have hown := owner_new
  obtain ⟨hp, g, d, tk, os⟩ := s
  simp only [hown]
  wp_walk
  exact h

theorem init_ {Q : Value → Shared → Prop} (F : Fr h₀ L s.heap m) (N : News h₀ L s.heap news) (U : Upd f (obj []) (obj []) news news')
    (hq : ∀ h', Fr h₀ L h' m → News h₀ L h' news' → Q .none { s with heap := h' }) :
    wpC (model prog w) A (PySem.call (.builtin "bytearray.__init__") [.ref f]) Q E s := by
  have h : s.heap.get? f = some (obj []) := by
    obtain ⟨pre, post, rfl, rfl, a, b⟩ := U.split
    exact (N (f, obj []) (by simp)).1
  refine .call (.call_builtin (plainId_quiet slot_init.plain _) (free_of (by decide +kernel)) entry_init (slot_init.check _ _ _ _ _ _ _ _ (typeIs h) (args_init _) ?_))
  unfold Builtin.«bytearray.__init__»
  refine .bindL (release h ?_)
  refine .ite0 ?_
  refine .bindL (wpAny_of_eq bind_init ?_)
  refine .bindL (wpAny_of_eq (a := ()) rfl ?_)
  refine .bindL (wpAny_of_eq (a := ()) rfl ?_)
  refine .bind ?_
  refine .bind (exported ?_)
  refine .bindL (m := Bytes.exportsOf (.ref f)) ?_
  unfold Bytes.exportsOf
  refine wpAny_bind (wpAny_load h (wpAny_pure ?_))
  refine .pure ?_
  refine .ite0 ?_
  refine .bindL (write F N U rfl (by decide) fun h' F' N' => ?_)
  exact .pure (hq h' F' N')
end
end BA

section
variable {prog : Program} {w : World} {A : Around} {E : Value → Shared → Prop} {s : Shared}
theorem callType_C {T newId initId : String} {args : List Value} {Q Q₁ : Value → Shared → Prop} (ft : TypeCalled T newId initId)
    (hct : checkTypeCall T ⟨args, []⟩ = pure ())
    (hnew : wpAny (model prog w) A.in1 (PySem.call (.builtin newId) (.type T :: args)) Q₁ E s)
    (hnext : ∀ obj s₁, Q₁ obj s₁ → s₁.TypeIs obj T ∧ wpC (model prog w) A.in1 (PySem.call (.builtin initId) (obj :: args)) (fun r s₂ => r = .none ∧ Q obj s₂) E s₁) :
    wpC (model prog w) A (PySem.call (.type T) args) Q E s := by
  obtain ⟨c, tl, hmro⟩ := ft.mro
  have hmade := ft.made
  have hsub := ft.sub
  have h1 := ft.notType
  have h2 := ft.canCreate
  refine .call (.tree ?_)
  show wpC _ _ (callAny (.type T) _) _ _ _
  refine .pure ⟨Code.quiet_builtin _ (by decide +kernel), BA.free_of (by decide +kernel), .builtin F.entry_type_call ?_⟩
  rw [Around.under_plain (weight_type_call_type T args []) rfl]
  unfold Builtin.«type.__call__»
  refine .iteF h1 ?_
  refine .iteF h2 ?_
  refine .bindL (wpAny_of_eq hct ?_)
  refine .bindL (wpAny_of_eq hmro ?_)
  refine .ite0 ?_
  refine .bindL (wpAny_of_eq hmade ?_)
  refine .bindL (wpAny_of_eq (a := Value.builtin newId) rfl ?_)
  refine .bindL (wpAny_holding (wpAny_mono hnew (fun obj s₁ hq => ?_) fun _ _ x => x))
  obtain ⟨hT, hi⟩ := hnext _ _ hq
  refine .bindL (wpAny_isInstance hT hsub ?_)
  refine .ite0 ?_
  refine .bind (.holding ?_)
  unfold callSpecial?
  refine .bindL (wpAny_specialOf hT ft.init.lookup ?_)
  dsimp only
  refine .holding ?_
  refine .bindL (wpAny_of_eq (ft.init.bind obj) ?_)
  refine .bind (hi.mono (fun r s₂ hr => ?_) fun _ _ x => x)
  obtain ⟨rfl, hq⟩ := hr
  exact .pure (.pure hq)

theorem make_ba {h₀ : Heap} {L : Addr} {m : Str → Option Value} {news : List (Addr × Obj)} {Q : Value → Shared → Prop} (F : Fr h₀ L s.heap m) (N : News h₀ L s.heap news)
    (h : ∀ f h', Fr h₀ L h' m → News h₀ L h' ((f, BA.obj []) :: news) → (∀ p ∈ news, p.1 < f) → Q (.ref f) { s with heap := h' }) :
    wpC (model prog w) A (PySem.call (.type "bytearray") []) Q E s := by
  have N' : News h₀ L (s.heap.push (BA.obj [])) ((s.heap.objs.size, BA.obj []) :: news) := N.push F _
  have lt : ∀ p ∈ news, p.1 < s.heap.objs.size := fun p hp => Heap.lt_size (N p hp).1
  have ne : ∀ p ∈ news, p.1 ≠ s.heap.objs.size := fun p hp => Nat.ne_of_lt (lt p hp)
  refine callType_C (Q₁ := fun v s₁ => v = .ref s.heap.objs.size ∧ s₁ = { s with heap := s.heap.push (BA.obj []) }) BA.called BA.typeCall (BA.new_ ⟨rfl, rfl⟩) ?_
  rintro obj s₁ ⟨rfl, rfl⟩
  refine ⟨⟨_, Heap.get?_push_size _ rfl, rfl⟩, ?_⟩
  exact BA.init_ (F.push _) N' (.head ne) fun h' F' N'' => ⟨rfl, h _ h' F' N'' lt⟩
end

structure Enc where
  size : Int
  code : Int
  left : Int
  found : List Int

noncomputable def carryRev : List Int → List Int
  | [] => []
  | x :: r => if x = 255 then 0 :: carryRev r else (x + 1) :: r
noncomputable def carry (l : List Int) : List Int := (carryRev l.reverse).reverse

theorem carryRev_eq (x : Int) (hx : x ≠ 255) (p : List Int) : ∀ j : Nat, carryRev (List.replicate j 255 ++ x :: p) = List.replicate j 0 ++ (x + 1) :: p
  | 0 => by simp [carryRev, hx]
  | j + 1 => by simp [List.replicate_succ, carryRev, carryRev_eq x hx p j]
theorem carry_eq (p : List Int) (x : Int) (hx : x ≠ 255) (j : Nat) : carry (p ++ x :: List.replicate j 255) = p ++ (x + 1) :: List.replicate j 0 := by
  unfold carry
  have : (p ++ x :: List.replicate j 255).reverse = List.replicate j 255 ++ x :: p.reverse := by simp
  rw [this, carryRev_eq x hx]
  simp

noncomputable def Enc.out (x : Enc) : Enc :=
  if x.code / 524288 > 255 then { x with code := x.code % 524288, found := carry x.found ++ [x.code / 524288 - 256] }
  else { x with code := x.code % 524288, found := x.found ++ [x.code / 524288] }
noncomputable def Enc.dbl (x : Enc) : Enc :=
  if x.left - 1 = 0 then { (Enc.out { x with size := x.size * 2, code := x.code * 2, left := 0 }) with left := 8 }
  else { x with size := x.size * 2, code := x.code * 2, left := x.left - 1 }
noncomputable def Enc.widenN : Nat → Enc → Enc
  | 0, x => x
  | n + 1, x => if x.size < 32768 then Enc.widenN n x.dbl else x
noncomputable def Enc.widen (x : Enc) : Enc := Enc.widenN 16 x

/-- where an encoder lies -/
structure EncAt where
  d : Addr
  e : Addr
  f : Addr
  h1 : Int
  h2 : Int
  h3 : Int
  h4 : Int
  k1 : Tok
  k2 : Tok
  k3 : Tok
  k4 : Tok
noncomputable abbrev encD (c : EncAt) (x : Enc) (t1 t2 t3 : Tok) : Obj := dictOf [⟨c.h1, .str (Str.ofString "size") c.k1, .int x.size t1⟩, ⟨c.h2, .str (Str.ofString "code") c.k2, .int x.code t2⟩, ⟨c.h3, .str (Str.ofString "left") c.k3, .int x.left t3⟩, ⟨c.h4, .str (Str.ofString "found") c.k4, .ref c.f⟩] 4
noncomputable abbrev encL (c : EncAt) (x : Enc) (t1 t2 t3 : Tok) : List (Addr × Obj) := [(c.e, instObj 333 c.d), (c.d, encD c x t1 t2 t3), (c.f, BA.obj x.found)]
noncomputable def EncAt.ok (c : EncAt) : Prop := @LT.lt Nat _ c.d c.e ∧ @LT.lt Nat _ c.e c.f

noncomputable def Octets (l : List Int) : Prop := ∀ x ∈ l, 0 ≤ x ∧ x < 256
/-- a carry can go into l -/
noncomputable def Room (l : List Int) : Prop := ∃ p x j, l = p ++ x :: List.replicate j 255 ∧ x ≠ 255

noncomputable def CtrC (prog : Program) (w : World) (mean : ExcName → Option Value) (mg mb : Str → Option Value) (f : Addr) (d u : Nat) (vs : List Value) (A : List (Addr × Obj)) (Ret : Value → List (Addr × Obj) → Prop) : Prop :=
  ∀ (dp un : Nat) (gd : Option (List Code)) (cn : Str) (cs : Scope) (a : Addr) (ccd : Value) (cl : List (Str × Addr)) (outer : List Env) (A₀ : Around) (base h₀ : Heap) (L : Addr) (m : Str → Option Value) (s : Shared) (Q : Value → Shared → Prop),
    Below A₀ base outer h₀ → Fr h₀ L s.heap m → (Mine.hd.heap_39 w.params).In h₀ → News h₀ L s.heap A → Top VW LO mean mg mb h₀ → cs.kind = .function → dp + d < recursionLimit → un + u < cLine →
    (∀ v B h' tk', Ret v B → Fr h₀ L h' m → News h₀ L h' B → Keeps (A.map (·.1)) s.heap h' → Q v { s with heap := h', toks := tk' }) →
    wpC (model prog w) (ktrTop dp un gd cn cs L a ccd cl outer) (call (.ref f) vs) Q (fun _ _ => False) s
/-- the parts of a judgement under names of their own: shorter terms -/
theorem wpC.folded {M : Model} {A : Around} {env : Env} {b : List Stmt} {Q : Flow → Shared → Prop} {E : Value → Shared → Prop} {s : Shared} (h : let M9 := M; let e9 := env; let A9 := A; let q9 := Q; wpC M9 A9 (execs b e9) q9 E s) : wpC M A (execs b env) Q E s := h
theorem wpAny_folded {M : Model} {A : Around} {env : Env} {b : List Stmt} {Q : Flow → Shared → Prop} {E : Value → Shared → Prop} {s : Shared} (h : let M9 := M; let e9 := env; let A9 := A; wpAny M9 A9 (execs b e9) Q E s) : wpAny M A (execs b env) Q E s := h
theorem bnd2 {x c r : Nat} (a b : Nat) (hd : x + c < r) (h : Nat.ble (a + b) c = true) : x + a + b < r := by
  rw [Nat.add_assoc]; exact Nat.lt_of_le_of_lt (Nat.add_le_add_left (Nat.le_of_ble_eq_true h) x) hd
theorem bnd3 {x c r : Nat} (a b d : Nat) (hd : x + c < r) (h : Nat.ble (a + b + d) c = true) : x + a + b + d < r := by
  rw [Nat.add_assoc x, Nat.add_assoc x]; exact Nat.lt_of_le_of_lt (Nat.add_le_add_left (Nat.le_of_ble_eq_true h) x) hd
theorem CtrC.use {prog : Program} {w : World} {mean : ExcName → Option Value} {mg mb : Str → Option Value} {f : Addr} {d u : Nat} {vs : List Value} {A : List (Addr × Obj)} {Ret : Value → List (Addr × Obj) → Prop} (C : CtrC prog w mean mg mb f d u vs A Ret)
    {dp un : Nat} {gd : Option (List Code)} {cn : Str} {cs : Scope} {a : Addr} {ccd : Value} {cl : List (Str × Addr)} {outer : List Env} {A₀ : Around} {base h₀ : Heap} {L : Addr} {m : Str → Option Value} {s : Shared} {Q : Value → Shared → Prop}
    (k1 : Below A₀ base outer h₀) (k2 : Fr h₀ L s.heap m) (k3 : (Mine.hd.heap_39 w.params).In h₀) (k4 : News h₀ L s.heap A) (k5 : Top VW LO mean mg mb h₀) (k6 : cs.kind = .function) (k7 : dp + d < recursionLimit) (k8 : un + u < cLine)
    (hret : ∀ v B h' tk', Ret v B → Fr h₀ L h' m → News h₀ L h' B → Keeps (A.map (·.1)) s.heap h' → Q v { s with heap := h', toks := tk' }) :
    wpC (model prog w) (ktrTop dp un gd cn cs L a ccd cl outer) (call (.ref f) vs) Q (fun _ _ => False) s := C _ _ _ _ _ _ _ _ _ _ _ _ _ _ _ _ k1 k2 k3 k4 k5 k6 k7 k8 hret
theorem ba_at {h₀ h : Heap} {L f : Addr} {l : List Int} {news : List (Addr × Obj)} (N : News h₀ L h news) (hm : (f, BA.obj l) ∈ news) : h.get? f = some (BA.obj l) := (N _ hm).1
theorem ba_item {prog : Program} {w : World} {A : Around} {E : Value → Shared → Prop} {s : Shared} {h₀ : Heap} {L f : Addr} {l : List Int} {news : List (Addr × Obj)} {value slice : PySem.Expr} {k : Int} {t : Tok} {Q : Value → Shared → Prop}
    (N : News h₀ L s.heap news) (hm : (f, BA.obj l) ∈ news) (hb : Octets l) (h0 : 0 ≤ k) (h1 : k < l.length) (hfit : l.length < 1000000)
    (hq : Q (.int (l.getD k.toNat 0) s.toks) { s with toks := s.toks + 1 })
    (hs : subscripted slice false (.ref f) (.int k t) = operate [.ref f, .int k t] (getItem (.ref f) (.int k t)) := by with_unfolding_all rfl) :
    wpAny (model prog w) A (subscriptTail value slice (.ref f) (.int k t)) Q E s :=
  tail_any (BA.typeIs (N _ hm).1) BA.slot_getitem.lookup (BA.getItem (N _ hm).1 hb h0 h1 hfit hq) hs
theorem ba_last {prog : Program} {w : World} {A : Around} {E : Value → Shared → Prop} {s : Shared} {h₀ : Heap} {L f : Addr} {l : List Int} {news : List (Addr × Obj)} {value slice : PySem.Expr} {t : Tok} {Q : Value → Shared → Prop}
    (N : News h₀ L s.heap news) (hm : (f, BA.obj l) ∈ news) (hb : Octets l) (h1 : 0 < l.length) (hfit : l.length < 1000000)
    (hq : Q (.int (l.getD (l.length - 1) 0) s.toks) { s with toks := s.toks + 1 })
    (hs : subscripted slice false (.ref f) (.int (-1) t) = operate [.ref f, .int (-1) t] (getItem (.ref f) (.int (-1) t)) := by with_unfolding_all rfl) :
    wpAny (model prog w) A (subscriptTail value slice (.ref f) (.int (-1) t)) Q E s :=
  tail_any (BA.typeIs (N _ hm).1) BA.slot_getitem.lookup (BA.getItem_last (N _ hm).1 hb h1 hfit hq) hs
theorem ba_get {prog : Program} {w : World} {A : Around} {E : Value → Shared → Prop} {s : Shared} {h₀ : Heap} {L f : Addr} {l : List Int} {news : List (Addr × Obj)} {k : Int} {t : Tok} {Q : Value → Shared → Prop}
    (N : News h₀ L s.heap news) (hm : (f, BA.obj l) ∈ news) (hb : Octets l) (h0 : 0 ≤ k) (h1 : k < l.length) (hfit : l.length < 1000000)
    (hq : Q (.int (l.getD k.toNat 0) s.toks) { s with toks := s.toks + 1 }) : wpAny (model prog w) A (getItem (.ref f) (.int k t)) Q E s :=
  BA.getItem (N _ hm).1 hb h0 h1 hfit hq
theorem ba_len {prog : Program} {w : World} {A : Around} {E : Value → Shared → Prop} {s : Shared} {h₀ : Heap} {L f : Addr} {l : List Int} {news : List (Addr × Obj)} {Q : Value → Shared → Prop}
    (N : News h₀ L s.heap news) (hm : (f, BA.obj l) ∈ news) (hfit : l.length < 1000000) (hq : Q (.int (l.length : Nat) (s.toks + 1)) { s with toks := s.toks + 1 + 1 }) :
    wpAny (model prog w) A (call (.builtin "len") [.ref f]) Q E s := BA.len (N _ hm).1 hfit hq
/-- where the walk is to stop -/
noncomputable def Stop (P : Prop) : Prop := P
theorem Stop.out {P : Prop} (h : Stop P) : P := h
theorem Stop.mk {P : Prop} (h : P) : Stop P := h
theorem anyTok {P : Shared → Prop} {s : Shared} {h : Heap} {tk : Nat} (a : ∀ tk', P { s with heap := h, toks := tk' }) : P { s with heap := h, toks := tk } := a tk
noncomputable def frGet {g : Heap} {L : Addr} {h : Heap} {m : Str → Option Value} (_F : Fr g L h m) (x : Str) : Option Value := m x
theorem ba_method {prog : Program} {w : World} {A : Around} {E : Value → Shared → Prop} {s : Shared} {h₀ : Heap} {L f : Addr} {l : List Int} {news : List (Addr × Obj)} {name : Str} {id : String} {pl : Sem Bool} {Q : Value × List Value → Shared → Prop}
    (N : News h₀ L s.heap news) (hm : (f, BA.obj l) ∈ news) (sl : Slot "bytearray" name id) (ty : typeOf (.builtin id) = pure (.type "method_descriptor")) (h : Q (.builtin id, [.ref f]) s) :
    wpAny (model prog w) A (getMethod (.ref f) name pl) Q E s :=
  getMethod_builtin (BA.typeIs (N _ hm).1) BA.plain sl ty (fun a e => by cases e; exact ⟨_, (N _ hm).1, rfl⟩) h
theorem wpC.callWith_B {M : Model} {A : Around} {E : Value → Shared → Prop} {s : Shared} {env : Env} {pos : Pos} {id : String} {first : List Value} {e : PySem.Expr} {rest : List PySem.Expr} {Q : Value → Shared → Prop}
    (h : wpAny M A (spliced (backTo pos (starEach (e :: rest) env))) (fun vs s₁ => wpC M A (PySem.call (.builtin id) (first ++ vs)) Q E s₁) E s)
    (he : starEach (e :: rest) env = (false, eval e env) :: starEach rest env := by rfl) (hplain : (backTo pos (starEach rest env)).any (·.1) = false := by rfl) :
    wpC M A (callWith pos (.builtin id) first (backTo pos (starEach (e :: rest) env)) []) Q E s := by
  rw [he] at h ⊢
  exact wpC.callWith_of (P := fun _ => True) (by show (false || (backTo pos (starEach rest env)).any (·.1)) = false; rw [hplain]; rfl) (fun _ _ => ⟨.machine, .inr (.inl rfl), Looks.of_pure rfl⟩)
    (.evalArgs_plain (.of (wpAny_mono h (fun _ _ x => ⟨trivial, x⟩) fun _ _ x => x)))
theorem wpC.callWith_B0 {M : Model} {A : Around} {E : Value → Shared → Prop} {s : Shared} {env : Env} {pos : Pos} {id : String} {first : List Value} {Q : Value → Shared → Prop}
    (h : wpC M A (PySem.call (.builtin id) (first ++ [])) Q E s) : wpC M A (callWith pos (.builtin id) first (backTo pos (starEach [] env)) []) Q E s :=
  wpC.callWith_of (P := fun _ => True) rfl (fun _ _ => ⟨.machine, .inr (.inl rfl), Looks.of_pure rfl⟩) (.of (evalArgs_nil3 ⟨trivial, h⟩))
theorem widen_stop {n : Nat} {y : Enc} (h : ¬ y.size < 32768) : Enc.widenN n y = y := by
  cases n with
  | zero => rfl
  | succ n => unfold Enc.widenN; rw [if_neg h]
theorem widen_go {n : Nat} {y : Enc} (h : y.size < 32768) : Enc.widenN (n + 1) y = Enc.widenN n y.dbl := by
  rw [Enc.widenN, if_pos h]
local macro_rules | `(tactic| walk_at $s:str) => `(tactic| k_extra $s)
local macro_rules | `(tactic| ksw_less) => `(tactic| first | assumption | omega | ((try simp only [List.length_append, List.length_cons, List.length_nil, List.length_replicate, List.length_set, List.length_dropLast] at *); omega))
local macro_rules | `(tactic| k_room) => `(tactic| ((try dsimp only [ktrTop, Around.deeper, Around.under, Around.in1]); omega))
theorem top_off : True := by w_top off; exact trivial
theorem reg_base : True := by
  k_with_none
  (k_with "call builtin:len" => ((k_here; (with_reducible show wpAny _ _ (call (Value.builtin "len") [Value.ref _]) _ _ _); k_dflt (refine' ba_len ?k1 ?k2 ?k3 ?_; (case k1 => k_asm); (case k2 => k_mem); (case k3 => ksw_less); k_whole))))
  (k_with "subscriptTail" => ((k_here; (with_reducible show wpAny _ _ (subscriptTail _ _ (Value.ref _) (Value.int _ _)) _ _ _); k_dflt (refine' ba_item ?k1 ?k2 ?k3 ?k4 ?k5 ?k6 ?_ ?k7; (case k1 => k_asm); (case k2 => k_mem); (case k3 => with_reducible assumption); (case k4 => ksw_less); (case k5 => ksw_less); (case k6 => ksw_less); (case k7 => with_unfolding_all rfl); k_whole))))
  (k_with "subscriptTail" => ((k_here; (with_reducible show wpAny _ _ (subscriptTail _ _ (Value.ref _) (Value.int (-1) _)) _ _ _); k_dflt (refine' ba_last ?k1 ?k2 ?k3 ?k5 ?k6 ?_ ?k7; (case k1 => k_asm); (case k2 => k_mem); (case k3 => with_reducible assumption); (case k5 => ksw_less); (case k6 => ksw_less); (case k7 => with_unfolding_all rfl); k_whole))))
  (k_with "getItem ref int" => ((k_here; (with_reducible show wpAny _ _ (getItem (Value.ref _) (Value.int _ _)) _ _ _); k_dflt (refine' ba_get ?k1 ?k2 ?k3 ?k4 ?k5 ?k6 ?_; (case k1 => k_asm); (case k2 => k_mem); (case k3 => with_reducible assumption); (case k4 => ksw_less); (case k5 => ksw_less); (case k6 => ksw_less); k_whole))))
  (k_with "setItem ref int" => ((k_here; (with_reducible show wpAny _ _ (setItem (Value.ref _) (Value.int _ _) (Value.int _ _)) _ _ _); k_dflt (refine' BA.setItem ?k1 ?k2 ?k3 ?k4 ?k5 ?k6 ?k7 ?k8 ?_; (case k1 => k_asm); (case k2 => k_asm); (case k3 => k_upd); (case k4 => ksw_less); (case k5 => ksw_less); (case k6 => ksw_less); (case k7 => ksw_less); (case k8 => ksw_less); k_whole); intro h' F' N'; (try k_sweep))))
  (k_with "m_open" => ((
    (case kA => exact rfl); (case kF => exact rfl); (case kK => assumption); (case k1 => k_asm); (case k2 => k_asm); (case k3 => k_asm); (case k4 => k_asm); (case k5 => k_asm)
    (case k6 => k_is); (case k7 => k_is); (case k8 => first | exact Nat.lt_of_le_of_lt (Nat.le_add_right _ _) (by assumption) | (refine Nat.lt_of_le_of_lt (Nat.add_le_add_left ?_ _) (by assumption); exact Nat.le_of_ble_eq_true rfl)); (case k9 => first | exact BindsTo.of_eq rfl | exact binds_K (by k_in) rfl (by k_is) rfl rfl rfl); (case c5 => decide); (case kB => exact locs rfl); (case c2 => exact rfl); (case c3 => exact rfl); (case c4 => exact rfl); k_whole)))
  (k_with "m_start" => (((try dsimp only); refine wpC.consL ?_; k_steps; all_goals (try k_fold))))
  (k_with "exec While Compare cons nil" => ((k_here; refine Stop.out ?_)))
  (k_with "exec While BoolOp cons nil" => ((k_here; refine Stop.out ?_)))
  (k_with "getMethod ref" => ((k_here; k_dflt (first
    | (refine' ba_method ?k1 ?k2 BA.slot_append BA.type_append ?_; (case k1 => k_asm); (case k2 => k_mem); k_whole)
    | (refine' ba_method ?k1 ?k2 BA.slot_pop BA.type_pop ?_; (case k1 => k_asm); (case k2 => k_mem); k_whole)))))
  (k_with "subscriptTail" => ((k_here; (with_reducible show wpAny _ _ (subscriptTail _ _ (Value.ref 196) (Value.int _ _)) _ _ _); k_dflt (refine' st_row ?k1 ?k2 ?k3 ?k4 ?_ ?k7; (case k1 => k_asm); (case k2 => k_asm); (case k3 => ksw_less); (case k4 => ksw_less); (case k7 => with_unfolding_all rfl); k_whole))))
  (k_with "subscriptTail" => ((k_here; (with_reducible show wpAny _ _ (subscriptTail _ _ (Value.ref (82 + Int.toNat _)) (Value.int _ _)) _ _ _); k_dflt (first
    | (refine' st_item (j := 0) ?k1 ?k2 ?k3 ?k4 ?k5 ?k6 ?k8 ?_ ?k7; (case k5 => exact rfl); (case k8 => exact ⟨_, rfl⟩); (case k1 => k_asm); (case k2 => k_asm); (case k3 => ksw_less); (case k4 => ksw_less); (case k6 => decide); (case k7 => with_unfolding_all rfl); k_whole)
    | (refine' st_item (j := 1) ?k1 ?k2 ?k3 ?k4 ?k5 ?k6 ?k8 ?_ ?k7; (case k5 => exact rfl); (case k8 => exact ⟨_, rfl⟩); (case k1 => k_asm); (case k2 => k_asm); (case k3 => ksw_less); (case k4 => ksw_less); (case k6 => decide); (case k7 => with_unfolding_all rfl); k_whole)
    | (refine' st_item (j := 2) ?k1 ?k2 ?k3 ?k4 ?k5 ?k6 ?k8 ?_ ?k7; (case k5 => exact rfl); (case k8 => exact ⟨_, rfl⟩); (case k1 => k_asm); (case k2 => k_asm); (case k3 => ksw_less); (case k4 => ksw_less); (case k6 => decide); (case k7 => with_unfolding_all rfl); k_whole)
    | (refine' st_item (j := 3) ?k1 ?k2 ?k3 ?k4 ?k5 ?k6 ?k8 ?_ ?k7; (case k5 => exact rfl); (case k8 => exact ⟨_, rfl⟩); (case k1 => k_asm); (case k2 => k_asm); (case k3 => ksw_less); (case k4 => ksw_less); (case k6 => decide); (case k7 => with_unfolding_all rfl); k_whole)); intro _)))
  (k_with "call ref" => ((k_here; ((first | (with_reducible show wpAny _ _ (call (Value.ref 225) _ _) _ _ _) | (with_reducible show wpAny _ _ (call (Value.ref 232) _ _) _ _ _)); refine Stop.out ?_))))
  exact trivial
section
theorem tail_get (p r : List Int) (x : Int) (j : Nat) : (p ++ x :: (List.replicate j 255 ++ r)).getD (p.length + j) 0 = if j = 0 then x else 255 := by
  rw [List.getD_eq_getElem?_getD, List.getElem?_append_right (by (first | lia | omega)), Nat.add_sub_cancel_left]
  cases j with
  | zero => simp
  | succ j => simp [List.getElem?_append]
theorem tail_set (p r : List Int) (x : Int) (j : Nat) : (p ++ x :: (List.replicate (j + 1) 255 ++ r)).set (p.length + (j + 1)) 0 = p ++ x :: (List.replicate j 255 ++ 0 :: r) := by
  rw [List.set_append_right _ _ (by (first | lia | omega)), Nat.add_sub_cancel_left, List.set_cons_succ, List.set_append]
  have : List.replicate (j + 1) (255 : Int) = List.replicate j 255 ++ [255] := List.replicate_succ' ..
  rw [if_pos (by simp), this, List.set_append_right _ _ (by simp)]
  simp
theorem head_set (p r : List Int) (x y : Int) : (p ++ x :: r).set p.length y = p ++ y :: r := by
  rw [List.set_append_right _ _ (by (first | lia | omega))]
  simp
theorem head_get (p r : List Int) (x : Int) : (p ++ x :: r).getD p.length 0 = x := by simp
theorem octets_tail {p : List Int} {x : Int} {j i : Nat} (h : Octets (p ++ x :: List.replicate j 255)) (k : Nat) : Octets (p ++ x :: (List.replicate k 255 ++ List.replicate i 0)) := by
  intro y hy
  simp only [List.mem_append, List.mem_cons, List.mem_replicate] at hy
  rcases hy with hy | rfl | ⟨_, rfl⟩ | ⟨_, rfl⟩
  · exact h y (by simp [hy])
  · exact h _ (by simp)
  · decide
  · decide
theorem Octets.append {a b : List Int} (ha : Octets a) (hb : Octets b) : Octets (a ++ b) := fun x hx => (List.mem_append.mp hx).elim (ha x) (hb x)
theorem Octets.carry {p : List Int} {x : Int} {j : Nat} (h : Octets (p ++ x :: List.replicate j 255)) (hx : x ≠ 255) : Octets (p ++ (x + 1) :: List.replicate j 0) := by
  intro y hy
  simp only [List.mem_append, List.mem_cons, List.mem_replicate] at hy
  have := h x (by simp)
  rcases hy with hy | rfl | ⟨_, rfl⟩
  · exact h y (by simp [hy])
  · (first | lia | omega)
  · decide

inductive EncR (c : EncAt) (x : Enc) (v : Value) (B : List (Addr × Obj)) : Prop
  | mk : v = .none → ∀ t1 t2 t3, B = encL c x t1 t2 t3 → EncR c x v B
set_option maxHeartbeats 4000000 in
theorem out_ctr {prog : Program} {w : World} {mean : ExcName → Option Value} {mg mb : Str → Option Value} {c : EncAt} {x : Enc} {t1 t2 t3 : Tok}
    (o : c.ok) (hc : 0 ≤ x.code) (hc2 : x.code < 268435456) (ho : Octets x.found) (hr : x.code / 524288 > 255 → Room x.found) (hl : x.found.length < 100000) :
    CtrC prog w mean mg mb 316 10 100 [.ref c.e] (encL c x t1 t2 t3) (EncR c x.out) := by
  intro dp un gd cn cs a ccd cl outer A₀ base h₀ L m s Q B F X N T hk hd hu hret
  obtain ⟨o1, o2⟩ := o
  obtain ⟨xs, xc, xl, xf⟩ := x
  obtain ⟨cd, ce, cf, h1, h2, h3, h4, k1, k2, k3, k4⟩ := c
  dsimp only at *
  refine .call ?_
  k_dflt (refine' codeC.code_def ?k1 ?k2 ?k3 ?k4 ?k5 ?kA ?kF ?kK ?k6 ?k7 ?k8 ?k9 ?kB ?_ ?c2 ?c3 ?c4 ?c5; k_extra "m_open")
  intro g' L' h' KG' FG' F' N' B' X' T' lN'
  try dsimp only
  first | (refine wpAny_folded ?_; intro M9 e9 A9; k_fold) | (refine wpC.folded ?_; intro M9 e9 A9 q9)
  have e1 : Int.fdiv xc (2 ^ Int.toNat 19) = xc / 524288 := Int.fdiv_eq_ediv_of_nonneg _ (by decide)
  have e2 : Int.fmod xc (1 * 2 ^ Int.toNat 19) = xc % 524288 := Int.fmod_eq_emod_of_nonneg _ (by decide)
  k_extra "m_start"
  k_extra "m_start"
  k_extra "m_start"
  · refine Stop.mk ?_
    have hbig : xc / 524288 > 255 := by first | (first | lia | omega) | (simp only [e1] at *; (first | lia | omega))
    obtain ⟨p, y, j, hp, hy⟩ := hr hbig
    subst hp
    rename Fr g' L' _ _ => FF
    rename News g' L' _ _ => NN
    obtain ⟨u2, NN⟩ : ∃ u2, News g' L' _ [(ce, instObj 333 cd), (cd, encD ⟨cd, ce, cf, h1, h2, h3, h4, k1, k2, k3, k4⟩ ⟨xs, xc % 524288, xl, []⟩ t1 u2 t3), (cf, BA.obj (p ++ y :: (List.replicate j 255 ++ List.replicate 0 0)))] :=
      ⟨_, by rw [← e2]; simp only [List.replicate_zero, List.append_nil]; exact NN⟩
    obtain ⟨ta, hat⟩ : ∃ t, frGet FF (Str.ofString "at") = some (.int ((p.length + j : Nat) : Int) t) := ⟨_, by
      show some (Value.int _ _) = some (Value.int _ _)
      congr 2
      simp only [List.length_append, List.length_cons, List.length_replicate]
      (first | lia | omega)⟩
    refine ksw_while (σ := Nat × Nat × Tok) (fun c => [(ce, instObj 333 cd), (cd, encD ⟨cd, ce, cf, h1, h2, h3, h4, k1, k2, k3, k4⟩ ⟨xs, xc % 524288, xl, []⟩ t1 u2 t3), (cf, BA.obj (p ++ y :: (List.replicate c.1 255 ++ List.replicate c.2.1 0)))])
      (fun c => [(Str.ofString "at", .int ((p.length + c.1 : Nat) : Int) c.2.2)]) (fun _ => True) [] (fun c => c.1 + c.2.1 = j) (fun c => c.1) (j, 0, ta) FF NN trivial (fun q hq => by rw [List.mem_singleton.mp hq]; exact hat) rfl ?_
    clear FF NN hat
    rintro ⟨a, i, t⟩ u hh tk _ hP FF NN
    dsimp only at hP FF NN ⊢
    have hO : Octets (p ++ y :: (List.replicate a 255 ++ List.replicate i 0)) := octets_tail ho a
    have hlen : (p ++ y :: (List.replicate a 255 ++ List.replicate i 0)).length = p.length + 1 + j := by simp; (first | lia | omega)
    have hlen2 : (p ++ y :: List.replicate j 255).length = p.length + 1 + j := by simp; (first | lia | omega)
    have hg : (p ++ y :: (List.replicate a 255 ++ List.replicate i 0)).getD ((p.length + a : Nat) : Int).toNat 0 = if a = 0 then y else 255 := by rw [Int.toNat_natCast]; exact tail_get ..
    have hyb : 0 ≤ y ∧ y < 255 := by have := ho y (by simp); (first | lia | omega)
    rcases a with _ | a
    · simp only [if_true] at hg
      k_steps
      all_goals first | (exfalso; (first | lia | omega)) | skip
      · rename Fr g' L' _ _ => FF
        rename News g' L' _ _ => NN
        have es : (p ++ y :: (List.replicate 0 255 ++ List.replicate i 0)).set ((p.length + 0 : Nat) : Int).toNat ((p ++ y :: (List.replicate 0 255 ++ List.replicate i 0)).getD ((p.length + 0 : Nat) : Int).toNat 0 + 1) = p ++ (y + 1) :: List.replicate j 0 := by
          rw [hg, Int.toNat_natCast, Nat.add_zero, head_set]
          have : i = j := by (first | lia | omega)
          subst this
          rfl
        rw [es] at NN
        have ex : Enc.out ⟨xs, xc, xl, p ++ y :: List.replicate j 255⟩ = ⟨xs, xc % 524288, xl, (p ++ (y + 1) :: List.replicate j 0) ++ [xc / 524288 - 256]⟩ := by
          unfold Enc.out
          simp only [hbig, if_true, carry_eq p y hy j]
        have hO2 : Octets (p ++ (y + 1) :: List.replicate j 0) := ho.carry hy
        have hl2 : (p ++ (y + 1) :: List.replicate j 0).length = p.length + 1 + j := by simp; (first | lia | omega)
        dsimp only
        refine .execs_cons (.Expr (.MethodCall ?_))
        k_steps
        refine .callWith_B ?_
        k_steps
        k_dflt (refine' BA.append (l := p ++ (y + 1) :: List.replicate j 0) ?k1 ?k2 ?k3 ?k4 ?k5 ?k6 ?_)
        case k1 => exact FF
        case k2 => exact NN
        case k3 => k_upd
        case k4 => ksw_less
        case k5 => rw [e1]; (first | lia | omega)
        case k6 => rw [e1]; (first | lia | omega)
        intro hz Fz Nz
        refine .execs_nil (leaveK_ Fz Nz fun kF kN => ?_)
        refine hret _ _ _ _ ⟨rfl, t1, u2, t3, ?_⟩ kF kN (KG'.of_fr Fz)
        rw [ex, e1]
    · simp only [Nat.succ_ne_zero, if_false] at hg
      k_steps
      all_goals first | (exfalso; (first | lia | omega)) | skip
      · rename Fr g' L' _ _ => FF
        rename News g' L' _ _ => NN
        obtain ⟨ta, hat⟩ : ∃ t, frGet FF (Str.ofString "at") = some (.int ((p.length + a : Nat) : Int) t) := ⟨_, by
          show some (Value.int _ _) = some (Value.int _ _)
          congr 2
          (first | lia | omega)⟩
        have es : (p ++ y :: (List.replicate (a + 1) 255 ++ List.replicate i 0)).set ((p.length + (a + 1) : Nat) : Int).toNat 0 = p ++ y :: (List.replicate a 255 ++ List.replicate (i + 1) 0) := by
          rw [Int.toNat_natCast, tail_set]; rfl
        rw [es] at NN
        refine ksw_end (a, i + 1, ta) FF NN (fun q hq => hq) trivial (fun q hq => by rw [List.mem_singleton.mp hq]; exact hat) ?_ ?_ ?_
        · intro z hz _
          have h9 := hz _ (.head _)
          dsimp only at h9
          simp [kstB, h9]
        · show a + (i + 1) = j
          (first | lia | omega)
        · exact Nat.lt_succ_self _
  · have hbig : ¬ xc / 524288 > 255 := by first | (first | lia | omega) | (simp only [e1] at *; (first | lia | omega))
    rename Fr g' L' _ _ => FF
    rename News g' L' _ _ => NN
    obtain ⟨u2, NN⟩ : ∃ u2, News g' L' _ [(ce, instObj 333 cd), (cd, encD ⟨cd, ce, cf, h1, h2, h3, h4, k1, k2, k3, k4⟩ ⟨xs, xc % 524288, xl, []⟩ t1 u2 t3), (cf, BA.obj xf)] :=
      ⟨_, by rw [← e2]; exact NN⟩
    have ex : Enc.out ⟨xs, xc, xl, xf⟩ = ⟨xs, xc % 524288, xl, xf ++ [xc / 524288]⟩ := by
      unfold Enc.out
      simp only [hbig, if_false]
    dsimp only
    refine .execs_cons (.Expr (.MethodCall ?_))
    k_steps
    refine .callWith_B ?_
    k_steps
    k_dflt (refine' BA.append (l := xf) ?k1 ?k2 ?k3 ?k4 ?k5 ?k6 ?_)
    case k1 => exact FF
    case k2 => exact NN
    case k3 => k_upd
    case k4 => ksw_less
    case k5 => rw [e1]; (first | lia | omega)
    case k6 => rw [e1]; (first | lia | omega)
    intro hz Fz Nz
    refine .execs_nil (leaveK_ Fz Nz fun kF kN => ?_)
    refine hret _ _ _ _ ⟨rfl, t1, u2, t3, ?_⟩ kF kN (KG'.of_fr Fz)
    rw [ex, e1]
end
section
/-! the coder's numbers, no program in sight -/
noncomputable def vf (a : Int) (l : List Int) : Int := l.foldl (fun a x => a * 256 + x) a
noncomputable def val (l : List Int) : Int := vf 0 l
theorem vf_append (a : Int) (l r : List Int) : vf a (l ++ r) = vf (vf a l) r := List.foldl_append ..
theorem val_snoc (l : List Int) (x : Int) : val (l ++ [x]) = val l * 256 + x := vf_append 0 l [x]
theorem vf_carry : ∀ (j : Nat) (a : Int), vf (a + 1) (List.replicate j 0) = vf a (List.replicate j 255) + 1
  | 0, a => rfl
  | j + 1, a => by
    show vf ((a + 1) * 256 + 0) (List.replicate j 0) = vf (a * 256 + 255) (List.replicate j 255) + 1
    rw [← vf_carry j (a * 256 + 255)]
    congr 1
    (first | lia | omega)
theorem val_carry {p : List Int} {x : Int} {j : Nat} : val (p ++ (x + 1) :: List.replicate j 0) = val (p ++ x :: List.replicate j 255) + 1 := by
  unfold val
  rw [vf_append, vf_append]
  show vf (vf 0 p * 256 + (x + 1)) _ = vf (vf 0 p * 256 + x) _ + 1
  rw [← vf_carry, Int.add_assoc]
theorem vf_full : ∀ (j : Nat) (a : Int), vf a (List.replicate j 255) + 1 = (a + 1) * 256 ^ j
  | 0, a => by show a + 1 = _; simp
  | j + 1, a => by
    show vf (a * 256 + 255) (List.replicate j 255) + 1 = _
    rw [vf_full j, Int.pow_succ]
    have : a * 256 + 255 + 1 = (a + 1) * 256 := by (first | lia | omega)
    rw [this, Int.mul_assoc, Int.mul_comm 256]
theorem room_or (l : List Int) : Room l ∨ l = List.replicate l.length 255 := by
  suffices h : ∀ r : List Int, (∃ p x j, r = List.replicate j 255 ++ x :: p ∧ x ≠ 255) ∨ r = List.replicate r.length 255 by
    rcases h l.reverse with ⟨p, x, j, e, hx⟩ | e
    · exact .inl ⟨p.reverse, x, j, by rw [← List.reverse_reverse l, e]; simp, hx⟩
    · exact .inr (by rw [← List.reverse_reverse l, e]; simp)
  intro r
  induction r with
  | nil => exact .inr rfl
  | cons y r ih =>
    by_cases hy : y = 255
    · subst hy
      rcases ih with ⟨p, x, j, rfl, hx⟩ | e
      · exact .inl ⟨p, x, j + 1, rfl, hx⟩
      · exact .inr (by rw [List.length_cons, List.replicate_succ, ← e])
    · exact .inl ⟨r, y, 0, rfl, hy⟩
theorem room_of {l : List Int} (h : val l + 1 < 256 ^ l.length) : Room l := by
  rcases room_or l with r | e
  · exact r
  · exfalso
    have := vf_full l.length 0
    rw [← e] at this
    unfold val at h
    (first | lia | omega)

/-- the encoder's state is sound -/
structure EncOk (x : Enc) : Prop where
  size0 : 1 ≤ x.size
  size1 : x.size ≤ 65536
  code0 : 0 ≤ x.code
  left0 : 1 ≤ x.left
  left1 : x.left ≤ 11
  near : x.code + x.size ≤ 2 ^ (28 - x.left.toNat)
  octets : Octets x.found
  low : val x.found * 2 ^ (27 - x.left.toNat) + x.code + x.size ≤ 256 ^ x.found.length * 2 ^ (27 - x.left.toNat)

/-- the coder's low end, and its scale, as whole numbers -/
noncomputable def Enc.lo (x : Enc) : Int := val x.found * 2 ^ (27 - x.left.toNat) + x.code

theorem pow_left {a : Nat} {l : Int} (h0 : 1 ≤ l) (h1 : l.toNat ≤ a) : (2 : Int) ^ (a - (l - 1).toNat) = 2 * 2 ^ (a - l.toNat) := by
  have : a - (l - 1).toNat = (a - l.toNat) + 1 := by (first | lia | omega)
  rw [this, Int.pow_succ, Int.mul_comm]

theorem Enc.out_ok {x : Enc} (c0 : 0 ≤ x.code) (c1 : x.code + x.size ≤ 2 ^ 28) (s0 : 1 ≤ x.size) (ho : Octets x.found) (hl : val x.found * 2 ^ 27 + x.code + x.size ≤ 256 ^ x.found.length * 2 ^ 27) :
    (x.code / 524288 > 255 → Room x.found) ∧ Octets x.out.found ∧ val x.out.found * 2 ^ 19 + x.out.code = val x.found * 2 ^ 27 + x.code ∧ x.out.found.length = x.found.length + 1 ∧ 0 ≤ x.out.code ∧ x.out.code < 524288 ∧ x.out.size = x.size := by
  have hroom : x.code / 524288 > 255 → Room x.found := fun h => by
    refine room_of ?_
    generalize (256 : Int) ^ x.found.length = P at hl ⊢
    (first | lia | omega)
  refine ⟨hroom, ?_⟩
  by_cases hb : x.code / 524288 > 255
  · obtain ⟨p, y, j, e, hy⟩ := hroom hb
    have e2 : x.out = { x with code := x.code % 524288, found := (p ++ (y + 1) :: List.replicate j 0) ++ [x.code / 524288 - 256] } := by
      unfold Enc.out
      rw [if_pos hb, e, carry_eq p y hy j]
    rw [e2]
    dsimp only
    have hv := val_carry (p := p) (x := y) (j := j)
    refine ⟨(Octets.carry (e ▸ ho) hy).append ?_, ?_, ?_, ?_, ?_, rfl⟩
    · intro z hz
      rw [List.mem_singleton.mp hz]
      (first | lia | omega)
    · rw [val_snoc, hv, ← e]
      (first | lia | omega)
    · rw [e]; simp; (first | lia | omega)
    · (first | lia | omega)
    · (first | lia | omega)
  · have e2 : x.out = { x with code := x.code % 524288, found := x.found ++ [x.code / 524288] } := by
      unfold Enc.out
      rw [if_neg hb]
    rw [e2]
    dsimp only
    refine ⟨ho.append ?_, ?_, ?_, ?_, ?_, rfl⟩
    · intro z hz
      rw [List.mem_singleton.mp hz]
      (first | lia | omega)
    · rw [val_snoc]
      (first | lia | omega)
    · simp
    · (first | lia | omega)
    · (first | lia | omega)

theorem EncOk.pre {x : Enc} (h : EncOk x) (hl : x.left - 1 = 0) :
    0 ≤ x.code * 2 ∧ x.code * 2 + x.size * 2 ≤ 2 ^ 28 ∧ val x.found * 2 ^ 27 + x.code * 2 + x.size * 2 ≤ 256 ^ x.found.length * 2 ^ 27 := by
  have e : x.left.toNat = 1 := by (first | lia | omega)
  have h1 := h.near
  have h2 := h.low
  have h3 := h.code0
  rw [e] at h1 h2
  generalize (256 : Int) ^ x.found.length = P at h2 ⊢
  simp only [Nat.reduceSub, Int.reducePow] at h1 h2 ⊢
  (first | lia | omega)

theorem EncOk.dbl {x : Enc} (h : EncOk x) (hs : x.size < 32768) : EncOk x.dbl ∧ x.dbl.size = x.size * 2 ∧ x.dbl.found.length ≤ x.found.length + 1 ∧ x.dbl.lo = x.lo * 2 ∧ 8 * (x.dbl.found.length : Int) - x.dbl.left = 8 * (x.found.length : Int) - x.left + 1 := by
  have a1 := h.size0; have a2 := h.size1; have a3 := h.code0; have a4 := h.left0; have a5 := h.left1
  by_cases hl : x.left - 1 = 0
  · obtain ⟨p0, p1, p2⟩ := h.pre hl
    obtain ⟨q0, q1, q2, q3, q4, q5, q6⟩ := Enc.out_ok (x := { x with size := x.size * 2, code := x.code * 2, left := 0 }) p0 p1 (by show 1 ≤ x.size * 2; (first | lia | omega)) h.octets p2
    have e : x.dbl = { (Enc.out { x with size := x.size * 2, code := x.code * 2, left := 0 }) with left := 8 } := by unfold Enc.dbl; rw [if_pos hl]
    have el : x.left.toNat = 1 := by (first | lia | omega)
    rw [e]
    dsimp only at q0 q1 q2 q3 q4 q5 q6 ⊢
    refine ⟨⟨?_, ?_, q4, ?_, ?_, ?_, q1, ?_⟩, q6, by (first | lia | omega), ?_, ?_⟩
    · dsimp only; (first | lia | omega)
    · dsimp only; (first | lia | omega)
    · dsimp only; (first | lia | omega)
    · dsimp only; (first | lia | omega)
    · dsimp only; simp only [Int.reduceToNat, Nat.reduceSub, Int.reducePow]; (first | lia | omega)
    · dsimp only
      simp only [Int.reduceToNat, Nat.reduceSub]
      have e3 : (256 : Int) ^ (x.found.length + 1) = 256 ^ x.found.length * 256 := Int.pow_succ ..
      rw [q3, e3]
      revert p2
      generalize (256 : Int) ^ x.found.length = P
      intro p2
      simp only [Int.reducePow] at q2 p2 ⊢
      (first | lia | omega)
    · unfold Enc.lo
      dsimp only
      rw [el]
      simp only [Int.reduceToNat, Nat.reduceSub, Int.reducePow] at q2 ⊢
      (first | lia | omega)
    · (first | lia | omega)
  · have e : x.dbl = { x with size := x.size * 2, code := x.code * 2, left := x.left - 1 } := by unfold Enc.dbl; rw [if_neg hl]
    rw [e]
    have b1 := h.near
    have b2 := h.low
    have e1 := pow_left (a := 28) (l := x.left) a4 (by (first | lia | omega))
    have e2 := pow_left (a := 27) (l := x.left) a4 (by (first | lia | omega))
    refine ⟨⟨?_, ?_, ?_, ?_, ?_, ?_, h.octets, ?_⟩, rfl, Nat.le_succ _, ?_, ?_⟩
    · dsimp only; (first | lia | omega)
    · dsimp only; (first | lia | omega)
    · dsimp only; (first | lia | omega)
    · dsimp only; (first | lia | omega)
    · dsimp only; (first | lia | omega)
    · dsimp only
      rw [e1]
      (first | lia | omega)
    · dsimp only
      rw [e2]
      generalize (256 : Int) ^ x.found.length = P at b2 ⊢
      generalize (2 : Int) ^ (27 - x.left.toNat) = T at b2 ⊢
      have h1 : val x.found * (2 * T) = val x.found * T * 2 := by rw [Int.mul_comm 2 T, Int.mul_assoc]
      have h2 : P * (2 * T) = P * T * 2 := by rw [Int.mul_comm 2 T, Int.mul_assoc]
      rw [h1, h2]
      (first | lia | omega)
    · unfold Enc.lo
      dsimp only
      rw [e2]
      generalize (2 : Int) ^ (27 - x.left.toNat) = T
      have h1 : val x.found * (2 * T) = val x.found * T * 2 := by rw [Int.mul_comm 2 T, Int.mul_assoc]
      rw [h1]
      (first | lia | omega)
    · dsimp only; (first | lia | omega)
end
section
inductive Inv_Widen_0 (s : Shared) (g' : Heap) (L' : Addr) (c : EncAt) (x : Enc) (mm : Str → Option Value) (n : Nat) (s₁ : Shared) : Prop
  | mk : ∀ y h tk u1 u2 u3, (s₁ = { s with heap := h, toks := tk }) → (Fr g' L' h mm) → (News g' L' h (encL c y u1 u2 u3)) → (EncOk y) → (32768 ≤ y.size * 2 ^ n) → (y.found.length + n ≤ x.found.length + 16) → (Enc.widenN n y = x.widen) → Inv_Widen_0 s g' L' c x mm n s₁
set_option maxHeartbeats 4000000 in
theorem widen_ctr {prog : Program} {w : World} {mean : ExcName → Option Value} {mg mb : Str → Option Value} {c : EncAt} {x : Enc} {t1 t2 t3 : Tok}
    (o : c.ok) (hx : EncOk x) (hl : x.found.length < 90000) :
    CtrC prog w mean mg mb 309 20 200 [.ref c.e] (encL c x t1 t2 t3) (EncR c x.widen) := by
  intro dp un gd cn cs a ccd cl outer A₀ base h₀ L m s Q B F X N T hk hd hu hret
  have o' := o
  obtain ⟨o1, o2⟩ := o'
  refine .call ?_
  k_dflt (refine' codeC.code_def ?k1 ?k2 ?k3 ?k4 ?k5 ?kA ?kF ?kK ?k6 ?k7 ?k8 ?k9 ?kB ?_ ?c2 ?c3 ?c4 ?c5; k_extra "m_open")
  intro g' L' h' KG' FG' F' N' B' X' T' lN'
  try dsimp only
  first | (refine wpAny_folded ?_; intro M9 e9 A9; k_fold) | (refine wpC.folded ?_; intro M9 e9 A9 q9)
  refine .execs_cons (wpC.While (n₀ := 16) (Inv_Widen_0 s g' L' c x _)
    ⟨x, h', _, t1, t2, t3, rfl, F', N', hx, by have := hx.size0; (first | lia | omega), Nat.le_refl _, rfl⟩ ?_)
  rintro n s₁ ⟨⟨ys, yc, yl, yf⟩, h1, tk1, u1, u2, u3, rfl, FF, NN, hy, hs, hlen, hw⟩ P9
  clear F' N'
  dsimp only at hs hlen hw
  k_steps
  · rename _ < _ => hlt
    dsimp only at hlt
    obtain ⟨k, rfl⟩ : ∃ k, n = k + 1 := by
      cases n with
      | zero => exfalso; simp at hs; (first | lia | omega)
      | succ k => exact ⟨k, rfl⟩
    rw [widen_go (by exact hlt)] at hw
    k_extra "m_start"
    k_extra "m_start"
    k_extra "m_start"
    refine .execs_cons (.IfL ?_)
    k_steps
    · rename _ = 0 => h0
      dsimp only at h0
      rename News g' L' _ _ => N3
      obtain ⟨v1, v2, v3, N3⟩ : ∃ v1 v2 v3, News g' L' _ (encL c ⟨ys * 2, yc * 2, 0, yf⟩ v1 v2 v3) := ⟨_, _, _, by rw [← h0]; exact N3⟩
      obtain ⟨p0, p1, p2⟩ := hy.pre h0
      obtain ⟨q0, q1⟩ := Enc.out_ok (x := ⟨ys * 2, yc * 2, 0, yf⟩) p0 p1 (by have := hy.size0; dsimp only at this ⊢; (first | lia | omega)) hy.octets p2
      have hd1 := hy.dbl hlt
      have ed : Enc.dbl ⟨ys, yc, yl, yf⟩ = { (Enc.out ⟨ys * 2, yc * 2, 0, yf⟩) with left := 8 } := by unfold Enc.dbl; rw [if_pos h0]
      refine .execs_cons (.Expr (.MethodCall ?_))
      k_steps
      k_dflt (refine' .callWith_K0 (K := Mine.hd.heap_39 w.params) ?k1 ?k2 ?_; (case k1 => k_in); (case k2 => k_is))
      have hC := out_ctr (prog := prog) (w := w) (mean := mean) (mg := mg) (mb := mb) (c := c) (x := ⟨ys * 2, yc * 2, 0, yf⟩) (t1 := v1) (t2 := v2) (t3 := v3) o p0 (by dsimp only at p1 ⊢; have := hy.size0; dsimp only at this; (first | lia | omega)) hy.octets q0 (by dsimp only; (first | lia | omega))
      k_dflt (refine' CtrC.use hC ?k1 ?k2 ?k3 ?k4 ?k5 ?k6 ?k7 ?k8 ?_; (case k1 => k_asm); (case k2 => k_asm); (case k3 => k_asm); (case k4 => k_asm); (case k5 => k_asm); (case k6 => exact rfl); (case k7 => exact bnd2 1 10 hd rfl); (case k8 => exact bnd2 3 100 hu rfl))
      clear hC
      rintro _ _ h2 tk2 ⟨rfl, w1, w2, w3, rfl⟩ F2 N2 K2
      k_extra "m_start"
      rename Fr g' L' _ _ => F3
      rename News g' L' _ _ => N4
      dsimp only
      refine .execs_nil ?_
      dsimp only
      refine .execs_nil ?_
      rw [ed] at hw hd1
      refine ⟨k, Nat.lt_succ_self k, _, _, _, _, _, _, rfl, F3, N4, hd1.1, ?_, ?_, hw⟩
      · have := Int.pow_succ 2 k
        have e9 := hd1.2.1
        rw [e9, Int.mul_assoc, Int.mul_comm 2]
        rw [this] at hs
        exact hs
      · have := hd1.2.2.1
        dsimp only at this ⊢
        (first | lia | omega)
    · rename ¬ _ => h0
      dsimp only at h0
      rename Fr g' L' _ _ => F3
      rename News g' L' _ _ => N3
      have ed : Enc.dbl ⟨ys, yc, yl, yf⟩ = ⟨ys * 2, yc * 2, yl - 1, yf⟩ := by unfold Enc.dbl; rw [if_neg h0]
      have hd1 := hy.dbl hlt
      rw [ed] at hw hd1
      refine .execs_nil ?_
      dsimp only
      refine .execs_nil ?_
      exact ⟨k, Nat.lt_succ_self k, _, _, _, _, _, _, rfl, F3, N3, hd1.1, by have := Int.pow_succ 2 k; dsimp only; rw [this] at hs; rw [Int.mul_assoc, Int.mul_comm 2]; exact hs, by dsimp only; (first | lia | omega), hw⟩
  · rename ¬ _ => hge
    dsimp only at hge ⊢
    rw [widen_stop (by exact hge)] at hw
    exact .execs_nil (leaveK_ FF NN fun kF kN => hret _ _ _ _ ⟨rfl, u1, u2, u3, by rw [hw]⟩ kF kN (KG'.of_fr FF))
end
section
/-! the table of states -/
noncomputable def TAB : List (Int × Int × Int × Int) := [(23069, 1, 1, 1), (9606, 14, 2, 0), (4372, 16, 3, 0), (2059, 18, 4, 0), (984, 20, 5, 0), (474, 23, 6, 0), (229, 25, 7, 0), (111, 28, 8, 0), (54, 30, 9, 0), (26, 33, 10, 0), (13, 35, 11, 0), (6, 9, 12, 0), (3, 10, 13, 0), (1, 12, 13, 0), (23167, 15, 15, 1), (16165, 36, 16, 0), (11506, 38, 17, 0), (8316, 39, 18, 0), (6073, 40, 19, 0), (4482, 42, 20, 0), (3311, 43, 21, 0), (2465, 45, 22, 0), (1839, 46, 23, 0), (1372, 48, 24, 0), (1030, 49, 25, 0), (771, 51, 26, 0), (576, 52, 27, 0), (433, 54, 28, 0), (324, 56, 29, 0), (245, 57, 30, 0), (183, 59, 31, 0), (138, 60, 32, 0), (104, 62, 33, 0), (78, 63, 34, 0), (59, 32, 35, 0), (44, 33, 9, 0), (23265, 37, 37, 1), (18508, 64, 38, 0), (14861, 65, 39, 0), (12017, 67, 40, 0), (9759, 68, 41, 0), (7987, 69, 42, 0), (6568, 70, 43, 0), (5400, 72, 44, 0), (4471, 73, 45, 0), (3700, 74, 46, 0), (3067, 75, 47, 0), (2552, 77, 48, 0), (2145, 78, 49, 0), (1798, 79, 50, 0), (1485, 48, 51, 0), (1246, 50, 52, 0), (1039, 50, 53, 0), (867, 51, 54, 0), (724, 52, 55, 0), (604, 53, 56, 0), (504, 54, 57, 0), (420, 55, 58, 0), (352, 56, 59, 0), (293, 57, 60, 0), (246, 58, 61, 0), (203, 59, 62, 0), (171, 61, 63, 0), (143, 61, 32, 0), (23314, 65, 65, 1), (19716, 80, 66, 0), (16684, 81, 67, 0), (14296, 82, 68, 0), (12264, 83, 69, 0), (10556, 84, 70, 0), (9081, 86, 71, 0), (7903, 87, 72, 0), (6825, 87, 73, 0), (5966, 72, 74, 0), (5156, 72, 75, 0), (4508, 74, 76, 0), (3947, 74, 77, 0), (3409, 75, 78, 0), (2998, 77, 79, 0), (2624, 77, 48, 0), (22578, 80, 81, 1), (19740, 88, 82, 0), (17294, 89, 83, 0), (15325, 90, 84, 0), (13550, 91, 85, 0), (11950, 92, 86, 0), (10650, 93, 87, 0), (9494, 86, 71, 0), (21872, 88, 89, 1), (19625, 95, 90, 0), (17625, 96, 91, 0), (15906, 97, 92, 0), (14372, 99, 93, 0), (12980, 99, 94, 0), (11799, 93, 86, 0), (22184, 95, 96, 1), (20294, 101, 97, 0), (18405, 102, 98, 0), (16847, 103, 99, 0), (15421, 104, 100, 0), (14174, 99, 93, 0), (21041, 105, 102, 0), (19471, 106, 103, 0), (17977, 107, 104, 0), (16734, 103, 99, 0), (22055, 105, 106, 1), (20711, 108, 107, 0), (19333, 109, 103, 0), (21911, 110, 109, 0), (20559, 111, 107, 0), (23056, 110, 111, 1), (21794, 112, 109, 0), (23019, 112, 111, 1), (23069, 113, 113, 0)]
noncomputable def rowOf (i : Int) : Int × Int × Int × Int := TAB.getD i.toNat (0, 0, 0, 0)
noncomputable def lessOf (i : Int) : Int := (rowOf i).1
noncomputable def nlessOf (i : Int) : Int := (rowOf i).2.1
noncomputable def nmoreOf (i : Int) : Int := (rowOf i).2.2.1
noncomputable def flipOf (i : Int) : Int := (rowOf i).2.2.2
noncomputable def rowObj (i : Nat) : Obj := { cls := .type "tuple", data := .seq #[.int (TAB.getD i (0, 0, 0, 0)).1 (292 + 4 * i), .int (TAB.getD i (0, 0, 0, 0)).2.1 (293 + 4 * i), .int (TAB.getD i (0, 0, 0, 0)).2.2.1 (294 + 4 * i), .int (TAB.getD i (0, 0, 0, 0)).2.2.2 (295 + 4 * i)] }
theorem tab_ok : TAB.all (fun r => decide (1 ≤ r.1) && decide (r.1 ≤ 23314) && decide (0 ≤ r.2.1) && decide (r.2.1 < 114) && decide (0 ≤ r.2.2.1) && decide (r.2.2.1 < 114)) = true := by decide +kernel
theorem row_in {i : Int} (h0 : 0 ≤ i) (h1 : i < 114) : 1 ≤ lessOf i ∧ lessOf i ≤ 23314 ∧ 0 ≤ nlessOf i ∧ nlessOf i < 114 ∧ 0 ≤ nmoreOf i ∧ nmoreOf i < 114 := by
  have hl : TAB.length = 114 := by decide +kernel
  have hi : i.toNat < TAB.length := by omega
  have e : rowOf i = TAB[i.toNat] := by unfold rowOf; simp [List.getD, hi]
  have h := List.all_eq_true.mp tab_ok TAB[i.toNat] (List.getElem_mem hi)
  rw [← e] at h
  simp only [Bool.and_eq_true, decide_eq_true_eq] at h
  unfold lessOf nlessOf nmoreOf
  omega
theorem k196 (P : Params) : (Mine.hd.heap_39 P).lookup 196 = some { cls := .type "tuple", data := .seq ((List.range 114).map fun i => Value.ref (82 + i)).toArray } := by kernel_rfl
theorem krows (P : Params) : (List.range 114).map (fun i => (Mine.hd.heap_39 P).lookup (82 + i)) = (List.range 114).map fun i => some (rowObj i) := by kernel_rfl
theorem krow (P : Params) {i : Nat} (h : i < 114) : (Mine.hd.heap_39 P).lookup (82 + i) = some (rowObj i) := by
  have := congrArg (fun l => l[i]?) (krows P)
  simpa [h] using this
end
section
theorem refs_at {j : Nat} (h : j < 114) : ((List.range 114).map fun i => Value.ref (82 + i))[j]? = some (.ref (82 + j)) := by simp [h]
theorem st_row {prog : Program} {w : World} {A : Around} {E : Value → Shared → Prop} {s : Shared} {h₀ : Heap} {L : Addr} {m : Str → Option Value} {value slice : PySem.Expr} {i : Int} {t : Tok} {Q : Value → Shared → Prop}
    (F : Fr h₀ L s.heap m) (X₀ : (Mine.hd.heap_39 w.params).In h₀) (h0 : 0 ≤ i) (h1 : i < 114) (h : Q (.ref (82 + i.toNat)) s)
    (hs : subscripted slice false (.ref 196) (.int i t) = operate [.ref 196, .int i t] (getItem (.ref 196) (.int i t)) := by with_unfolding_all rfl) :
    wpAny (model prog w) A (subscriptTail value slice (.ref 196) (.int i t)) Q E s :=
  topTup_K (l := (List.range 114).map fun i => Value.ref (82 + i)) (v := .ref (82 + i.toNat)) F X₀ (k196 _) (by (first | lia | omega)) (by (first | lia | omega)) (j := i.toNat) (seqIndex_of h0 (by rw [List.length_map, List.length_range]; exact h1)) (refs_at (by (first | lia | omega))) h hs
theorem st_item {prog : Program} {w : World} {A : Around} {E : Value → Shared → Prop} {s : Shared} {h₀ : Heap} {L : Addr} {m : Str → Option Value} {value slice : PySem.Expr} {i k v : Int} {t : Tok} {j : Nat} {Q : Value → Shared → Prop}
    (F : Fr h₀ L s.heap m) (X₀ : (Mine.hd.heap_39 w.params).In h₀) (h0 : 0 ≤ i) (h1 : i < 114) (hk : k = j) (hj : j < 4) (hv : ∃ u, [Value.int (lessOf i) (292 + 4 * i.toNat), .int (nlessOf i) (293 + 4 * i.toNat), .int (nmoreOf i) (294 + 4 * i.toNat), .int (flipOf i) (295 + 4 * i.toNat)][j]? = some (.int v u)) (h : ∀ u, Q (.int v u) s)
    (hs : subscripted slice false (.ref (82 + i.toNat)) (.int k t) = operate [.ref (82 + i.toNat), .int k t] (getItem (.ref (82 + i.toNat)) (.int k t)) := by with_unfolding_all rfl) :
    wpAny (model prog w) A (subscriptTail value slice (.ref (82 + i.toNat)) (.int k t)) Q E s := by
  obtain ⟨u, hv⟩ := hv
  refine topTup_K (l := [Value.int (lessOf i) (292 + 4 * i.toNat), .int (nlessOf i) (293 + 4 * i.toNat), .int (nmoreOf i) (294 + 4 * i.toNat), .int (flipOf i) (295 + 4 * i.toNat)]) F X₀ (krow _ (i := i.toNat) (by (first | lia | omega))) (by (first | lia | omega)) (by (first | lia | omega)) (j := j) ?_ hv (h u) hs
  rw [hk]
  exact seqIndex_of (by (first | lia | omega)) (by simp only [List.length_cons, List.length_nil]; (first | lia | omega))

structure Bin where
  ss : List Int
  es : List Int
structure BinOk (b : Bin) : Prop where
  ls : b.ss.length = 49
  le : b.es.length = 49
  s : ∀ x ∈ b.ss, 0 ≤ x ∧ x < 114
  e : ∀ x ∈ b.es, x = 0 ∨ x = 1
/-- where bins lie -/
structure BinAt where
  d : Addr
  e : Addr
  s : Addr
  t : Addr
  h1 : Int
  h2 : Int
  k1 : Tok
  k2 : Tok
noncomputable def BinAt.ok (c : BinAt) : Prop := @LT.lt Nat _ c.d c.e ∧ @LT.lt Nat _ c.e c.s ∧ @LT.lt Nat _ c.s c.t
noncomputable abbrev binD (c : BinAt) : Obj := dictOf [⟨c.h1, .str (Str.ofString "states") c.k1, .ref c.s⟩, ⟨c.h2, .str (Str.ofString "senses") c.k2, .ref c.t⟩] 2
noncomputable abbrev binL (c : BinAt) (vs ws : List Value) (n1 n2 : Nat) : List (Addr × Obj) := [(c.e, instObj 214 c.d), (c.d, binD c), (c.s, listOf vs.toArray n1), (c.t, listOf ws.toArray n2)]

theorem BinOk.st {b : Bin} (h : BinOk b) {k : Int} (h0 : 0 ≤ k) (h1 : k < 49) : 0 ≤ b.ss.getD k.toNat 0 ∧ b.ss.getD k.toNat 0 < 114 := h.s _ (getD_mem (by rw [h.ls]; (first | lia | omega)))
theorem BinOk.se {b : Bin} (h : BinOk b) {k : Int} (h0 : 0 ≤ k) (h1 : k < 49) : b.es.getD k.toNat 0 = 0 ∨ b.es.getD k.toNat 0 = 1 := h.e _ (getD_mem (by rw [h.le]; (first | lia | omega)))

noncomputable def Bin.more (b : Bin) (k : Int) : Bin := { b with ss := b.ss.set k.toNat (nmoreOf (b.ss.getD k.toNat 0)) }
noncomputable def Bin.less (b : Bin) (k : Int) : Bin :=
  { ss := b.ss.set k.toNat (nlessOf (b.ss.getD k.toNat 0)), es := if flipOf (b.ss.getD k.toNat 0) = 1 then b.es.set k.toNat (1 - b.es.getD k.toNat 0) else b.es }
theorem mem_set {l : List Int} {i : Nat} {x : Int} {P : Int → Prop} (h : ∀ y ∈ l, P y) (hx : P x) : ∀ y ∈ l.set i x, P y := fun y hy => by
  rcases List.mem_or_eq_of_mem_set hy with q | rfl
  · exact h y q
  · exact hx
theorem BinOk.more {b : Bin} (h : BinOk b) {k : Int} (h0 : 0 ≤ k) (h1 : k < 49) : BinOk (b.more k) := by
  have q := h.st h0 h1
  have r := row_in q.1 q.2
  exact ⟨by unfold Bin.more; simp [h.ls], h.le, mem_set h.s ⟨r.2.2.2.2.1, r.2.2.2.2.2⟩, h.e⟩
theorem BinOk.less {b : Bin} (h : BinOk b) {k : Int} (h0 : 0 ≤ k) (h1 : k < 49) : BinOk (b.less k) := by
  have q := h.st h0 h1
  have r := row_in q.1 q.2
  have z := h.se h0 h1
  refine ⟨by unfold Bin.less; simp [h.ls], by unfold Bin.less; dsimp only; split <;> simp [h.le], mem_set h.s ⟨r.2.2.1, r.2.2.2.1⟩, ?_⟩
  unfold Bin.less
  dsimp only
  split
  · exact mem_set h.e (by (first | lia | omega))
  · exact h.e
noncomputable abbrev bothL (c : EncAt) (x : Enc) (t1 t2 t3 : Tok) (d : BinAt) (vs ws : List Value) (n1 n2 : Nat) : List (Addr × Obj) :=
  [(c.e, instObj 333 c.d), (c.d, encD c x t1 t2 t3), (c.f, BA.obj x.found), (d.e, instObj 214 d.d), (d.d, binD d), (d.s, listOf vs.toArray n1), (d.t, listOf ws.toArray n2)]
noncomputable def apart (c : EncAt) (d : BinAt) : Prop := c.ok ∧ @LT.lt Nat _ c.f d.d ∧ d.ok
noncomputable def Enc.lower (x : Enc) (less : Int) : Enc := { x with size := x.size - less }
noncomputable def Enc.upper (x : Enc) (less : Int) : Enc := { x with size := less, code := x.code + (x.size - less) }
theorem EncOk.lower {x : Enc} (h : EncOk x) {less : Int} (l0 : 1 ≤ less) (l1 : less ≤ 23314) (hs : 32768 ≤ x.size) : EncOk (x.lower less) := by
  have a1 := h.size0; have a2 := h.size1; have a6 := h.near; have a7 := h.low
  exact ⟨by unfold Enc.lower; dsimp only; (first | lia | omega), by unfold Enc.lower; dsimp only; (first | lia | omega), h.code0, h.left0, h.left1, by unfold Enc.lower; dsimp only; (first | lia | omega), h.octets, by unfold Enc.lower; dsimp only; (first | lia | omega)⟩
theorem EncOk.upper {x : Enc} (h : EncOk x) {less : Int} (l0 : 1 ≤ less) (l1 : less ≤ 23314) (hs : 32768 ≤ x.size) : EncOk (x.upper less) := by
  have a1 := h.size0; have a2 := h.size1; have a6 := h.near; have a7 := h.low; have a3 := h.code0
  exact ⟨by unfold Enc.upper; dsimp only; (first | lia | omega), by unfold Enc.upper; dsimp only; (first | lia | omega), by unfold Enc.upper; dsimp only; (first | lia | omega), h.left0, h.left1, by unfold Enc.upper; dsimp only; (first | lia | omega), h.octets, by unfold Enc.upper; dsimp only; (first | lia | omega)⟩
noncomputable def encPut (x : Enc) (b : Bin) (k bit : Int) : Enc × Bin :=
  let less := lessOf (b.ss.getD k.toNat 0)
  if bit = b.es.getD k.toNat 0 then
    if x.size - less ≥ 32768 then (x.lower less, b)
    else (Enc.widen (if x.size - less < less then x.upper less else x.lower less), b.more k)
  else (Enc.widen (if x.size - less ≥ less then x.upper less else x.lower less), b.less k)
end
section
inductive BinR (c : BinAt) (b : Bin) (v : Value) (B : List (Addr × Obj)) : Prop
  | mk : v = .none → ∀ vs ws n1 n2, IntsAre vs b.ss → IntsAre ws b.es → B = binL c vs ws n1 n2 → BinR c b v B
set_option maxHeartbeats 4000000 in
theorem more_ctr {prog : Program} {w : World} {mean : ExcName → Option Value} {mg mb : Str → Option Value} {c : BinAt} {b : Bin} {vs ws : List Value} {n1 n2 : Nat} {k : Int} {t : Tok}
    (o : c.ok) (hb : BinOk b) (hv : IntsAre vs b.ss) (hw : IntsAre ws b.es) (k0 : 0 ≤ k) (k1 : k < 49) :
    Ctr prog w mean mg mb 225 10 100 [.ref c.e, .int k t] (binL c vs ws n1 n2) (BinR c (b.more k)) := by
  intro dp un gd cn cs a ccd cl outer A₀ base h₀ L m s Q E B F X N T hk hd hu hret
  obtain ⟨o1, o2, o3⟩ := o
  have hst := hb.st k0 k1
  have hls := hb.ls
  have hle := hb.le
  refine wpAny_call ?_
  k_dflt (refine' code_defR ?k1 ?k2 ?k3 ?k4 ?k5 ?kA ?kF ?kK ?k6 ?k7 ?k8 ?k9 ?kB ?_ ?c2 ?c3 ?c4 ?c5; k_extra "m_open")
  intro g' L' h' KG' FG' F' N' B' X' T' lN'
  try dsimp only
  first | (refine wpAny_folded ?_; intro M9 e9 A9; k_fold) | (refine wpC.folded ?_; intro M9 e9 A9 q9)
  k_steps
  rename News h₀ L _ _ => kN
  rename Fr h₀ L _ _ => kF
  rename Fr g' L' _ _ => FF
  exact hret _ _ _ _ ⟨rfl, _, _, _, _, ints_set hv _, hw, rfl⟩ kF kN (KG'.of_fr FF)

set_option maxHeartbeats 4000000 in
theorem less_ctr {prog : Program} {w : World} {mean : ExcName → Option Value} {mg mb : Str → Option Value} {c : BinAt} {b : Bin} {vs ws : List Value} {n1 n2 : Nat} {k : Int} {t : Tok}
    (o : c.ok) (hb : BinOk b) (hv : IntsAre vs b.ss) (hw : IntsAre ws b.es) (k0 : 0 ≤ k) (k1 : k < 49) :
    Ctr prog w mean mg mb 232 10 100 [.ref c.e, .int k t] (binL c vs ws n1 n2) (BinR c (b.less k)) := by
  intro dp un gd cn cs a ccd cl outer A₀ base h₀ L m s Q E B F X N T hk hd hu hret
  obtain ⟨o1, o2, o3⟩ := o
  have hst := hb.st k0 k1
  have hls := hb.ls
  have hle := hb.le
  refine wpAny_call ?_
  k_dflt (refine' code_defR ?k1 ?k2 ?k3 ?k4 ?k5 ?kA ?kF ?kK ?k6 ?k7 ?k8 ?k9 ?kB ?_ ?c2 ?c3 ?c4 ?c5; k_extra "m_open")
  intro g' L' h' KG' FG' F' N' B' X' T' lN'
  try dsimp only
  first | (refine wpAny_folded ?_; intro M9 e9 A9; k_fold) | (refine wpC.folded ?_; intro M9 e9 A9 q9)
  k_steps
  all_goals (rename News h₀ L _ _ => kN; rename Fr h₀ L _ _ => kF; rename Fr g' L' _ _ => FF)
  · rename _ = (1 : Int) => hf
    refine hret _ _ _ _ ⟨rfl, _, _, _, _, ints_set hv _, ?_, rfl⟩ kF kN (KG'.of_fr FF)
    unfold Bin.less
    dsimp only
    rw [if_pos hf]
    exact ints_set hw _
  · rename _ ≠ (1 : Int) => hf
    refine hret _ _ _ _ ⟨rfl, _, _, _, _, ints_set hv _, ?_, rfl⟩ kF kN (KG'.of_fr FF)
    unfold Bin.less
    dsimp only
    rw [if_neg hf]
    exact hw
end
section
theorem both_b {h₀ h : Heap} {L : Addr} {c : EncAt} {x : Enc} {t1 t2 t3 : Tok} {d : BinAt} {vs ws : List Value} {n1 n2 : Nat} (N : News h₀ L h (bothL c x t1 t2 t3 d vs ws n1 n2)) : News h₀ L h (binL d vs ws n1 n2) := News.perm N fun p hp => List.mem_append_right (encL c x t1 t2 t3) hp
theorem both_e {h₀ h : Heap} {L : Addr} {c : EncAt} {x : Enc} {t1 t2 t3 : Tok} {d : BinAt} {vs ws : List Value} {n1 n2 : Nat} (N : News h₀ L h (bothL c x t1 t2 t3 d vs ws n1 n2)) : News h₀ L h (encL c x t1 t2 t3) := News.perm N fun p hp => List.mem_append_left (binL d vs ws n1 n2) hp
theorem enc_le {c : EncAt} {x : Enc} {t1 t2 t3 : Tok} (o : c.ok) : ∀ p ∈ encL c x t1 t2 t3, @LE.le Nat _ p.1 c.f :=
  List.forall_mem_cons.mpr ⟨Nat.le_of_lt o.2, List.forall_mem_cons.mpr ⟨Nat.le_of_lt (Nat.lt_trans o.1 o.2), List.forall_mem_cons.mpr ⟨Nat.le_refl _, fun _ h => absurd h List.not_mem_nil⟩⟩⟩
theorem bin_ge {d : BinAt} {vs ws : List Value} {n1 n2 : Nat} (o : d.ok) : ∀ p ∈ binL d vs ws n1 n2, @LE.le Nat _ d.d p.1 :=
  List.forall_mem_cons.mpr ⟨Nat.le_of_lt o.1, List.forall_mem_cons.mpr ⟨Nat.le_refl _, List.forall_mem_cons.mpr ⟨Nat.le_of_lt (Nat.lt_trans o.1 o.2.1), List.forall_mem_cons.mpr ⟨Nat.le_of_lt (Nat.lt_trans o.1 (Nat.lt_trans o.2.1 o.2.2)), fun _ h => absurd h List.not_mem_nil⟩⟩⟩⟩
/-- two ledgers that lie apart -/
theorem news_two {h₀ h h' : Heap} {L b : Addr} {l r r' : List (Addr × Obj)} (hl : ∀ p ∈ l, @LT.lt Nat _ p.1 b) (hr : ∀ p ∈ r, @LE.le Nat _ b p.1)
    (N : News h₀ L h (l ++ r)) (NB : News h₀ L h' r') (K : Keeps (r.map (·.1)) h h') : News h₀ L h' (l ++ r') :=
  news_after N NB K fun p hp => (List.mem_append.mp hp).elim (fun hp => .inr ⟨List.mem_append_left r hp, fun h => by
    obtain ⟨q, hq, e⟩ := List.mem_map.mp h
    exact absurd (e ▸ hr q hq) (Nat.not_le.mpr (hl p hp))⟩) .inl
theorem news_two' {h₀ h h' : Heap} {L b : Addr} {l r l' : List (Addr × Obj)} (hl : ∀ p ∈ l, @LT.lt Nat _ p.1 b) (hr : ∀ p ∈ r, @LE.le Nat _ b p.1)
    (N : News h₀ L h (l ++ r)) (NB : News h₀ L h' l') (K : Keeps (l.map (·.1)) h h') : News h₀ L h' (l' ++ r) :=
  news_after N NB K fun p hp => (List.mem_append.mp hp).elim .inl (fun hp => .inr ⟨List.mem_append_right l hp, fun h => by
    obtain ⟨q, hq, e⟩ := List.mem_map.mp h
    exact absurd (hr p hp) (Nat.not_le.mpr (e ▸ hl q hq))⟩)
theorem both_bins {h₀ h h' : Heap} {L : Addr} {c : EncAt} {x : Enc} {t1 t2 t3 : Tok} {d : BinAt} {vs ws vs' ws' : List Value} {n1 n2 m1 m2 : Nat} (o : apart c d)
    (N : News h₀ L h (bothL c x t1 t2 t3 d vs ws n1 n2)) (NB : News h₀ L h' (binL d vs' ws' m1 m2)) (K : Keeps ((binL d vs ws n1 n2).map (·.1)) h h') : News h₀ L h' (bothL c x t1 t2 t3 d vs' ws' m1 m2) :=
  news_two (l := encL c x t1 t2 t3) (r := binL d vs ws n1 n2) (fun p hp => Nat.lt_of_le_of_lt (enc_le o.1 p hp) o.2.1) (bin_ge o.2.2) N NB K
theorem both_enc {h₀ h h' : Heap} {L : Addr} {c : EncAt} {x x' : Enc} {t1 t2 t3 t1' t2' t3' : Tok} {d : BinAt} {vs ws : List Value} {n1 n2 : Nat} (o : apart c d)
    (N : News h₀ L h (bothL c x t1 t2 t3 d vs ws n1 n2)) (NB : News h₀ L h' (encL c x' t1' t2' t3')) (K : Keeps ((encL c x t1 t2 t3).map (·.1)) h h') : News h₀ L h' (bothL c x' t1' t2' t3' d vs ws n1 n2) :=
  news_two' (l := encL c x t1 t2 t3) (r := binL d vs ws n1 n2) (l' := encL c x' t1' t2' t3') (fun p hp => Nat.lt_of_le_of_lt (enc_le o.1 p hp) o.2.1) (bin_ge o.2.2) N NB K
inductive PutR (c : EncAt) (d : BinAt) (q : Enc × Bin) (v : Value) (B : List (Addr × Obj)) : Prop
  | mk : v = .none → ∀ t1 t2 t3 vs ws n1 n2, IntsAre vs q.2.ss → IntsAre ws q.2.es → B = bothL c q.1 t1 t2 t3 d vs ws n1 n2 → PutR c d q v B
set_option maxHeartbeats 8000000 in
theorem put_ctr {prog : Program} {w : World} {mean : ExcName → Option Value} {mg mb : Str → Option Value} {c : EncAt} {x : Enc} {t1 t2 t3 : Tok} {d : BinAt} {b : Bin} {vs ws : List Value} {n1 n2 : Nat} {k bit : Int} {t u : Tok}
    (o : apart c d) (hx : EncOk x) (hx2 : 32768 ≤ x.size) (hl : x.found.length < 89000) (hb : BinOk b) (hv : IntsAre vs b.ss) (hw : IntsAre ws b.es) (k0 : 0 ≤ k) (k1 : k < 49) :
    CtrC prog w mean mg mb 302 40 500 [.ref c.e, .ref d.e, .int k t, .int bit u] (bothL c x t1 t2 t3 d vs ws n1 n2)
      (PutR c d (encPut x b k bit)) := by
  intro dp un gd cn cs a ccd cl outer A₀ base h₀ L m s Q B F X N T hk hd hu hret
  have o0 := o
  obtain ⟨oe, oo, ob⟩ := o
  have oe' := oe
  have ob' := ob
  obtain ⟨o1, o2⟩ := oe'
  obtain ⟨o3, o4, o5⟩ := ob'
  have hst := hb.st k0 k1
  have hls := hb.ls
  have hle := hb.le
  have hrow := row_in hst.1 hst.2
  refine .call ?_
  k_dflt (refine' codeC.code_def ?k1 ?k2 ?k3 ?k4 ?k5 ?kA ?kF ?kK ?k6 ?k7 ?k8 ?k9 ?kB ?_ ?c2 ?c3 ?c4 ?c5; k_extra "m_open")
  intro g' L' h' KG' FG' F' N' B' X' T' lN'
  try dsimp only
  first | (refine wpAny_folded ?_; intro M9 e9 A9; k_fold) | (refine wpC.folded ?_; intro M9 e9 A9 q9)
  k_extra "m_start"
  k_extra "m_start"
  k_extra "m_start"
  · rename _ = _ => hb1
    rename _ ≤ _ => hb2
    rename Fr h₀ L _ _ => kF
    rename News h₀ L _ _ => kN
    rename Fr g' L' _ _ => FF
    have e : encPut x b k bit = (x.lower (lessOf (b.ss.getD k.toNat 0)), b) := by unfold encPut; dsimp only; rw [if_pos hb1, if_pos hb2]
    exact hret _ _ _ _ ⟨rfl, _, _, _, _, _, _, _, by rw [e]; exact hv, by rw [e]; exact hw, by rw [e]; rfl⟩ kF kN (KG'.of_fr FF)
  all_goals refine Stop.mk ?_
  · rename _ = _ => hb1
    rename _ < _ => hb3
    rename ¬ _ ≤ _ => hb2
    rename Fr g' L' _ _ => FF
    rename News g' L' _ _ => NN
    obtain ⟨v1, v2, v3, NN⟩ : ∃ v1 v2 v3, News g' L' _ (bothL c (x.upper (lessOf (b.ss.getD k.toNat 0))) v1 v2 v3 d vs ws n1 n2) := ⟨_, _, _, NN⟩
    have e : encPut x b k bit = ((x.upper (lessOf (b.ss.getD k.toNat 0))).widen, b.more k) := by unfold encPut; dsimp only; rw [if_pos hb1, if_neg hb2, if_pos hb3]
    have hY := EncOk.upper hx hrow.1 hrow.2.1 hx2
    have hC := fun t => more_ctr (prog := prog) (w := w) (mean := mean) (mg := mg) (mb := mb) (c := d) (b := b) (vs := vs) (ws := ws) (n1 := n1) (n2 := n2) (k := k) (t := t) ⟨o3, o4, o5⟩ hb hv hw k0 k1
    have hB := fun u1 u2 u3 => widen_ctr (prog := prog) (w := w) (mean := mean) (mg := mg) (mb := mb) (c := c) (x := x.upper (lessOf (b.ss.getD k.toNat 0))) (t1 := u1) (t2 := u2) (t3 := u3) oe hY (by show x.found.length < 90000; (first | lia | omega))
    have NP : News g' L' _ (binL d vs ws n1 n2) := both_b NN
    k_dflt (refine' Ctr.use (hC _) ?k1 ?k2 ?k3 ?k4 ?k5 ?k6 ?k7 ?k8 ?_; (case k1 => k_asm); (case k2 => exact FF); (case k3 => k_asm); (case k4 => exact NP); (case k5 => k_asm); (case k6 => exact rfl); (case k7 => exact bnd2 1 10 hd rfl); (case k8 => exact bnd2 3 100 hu rfl))
    clear hC
    rintro _ _ h2 tk2 ⟨rfl, vs', ws', m1, m2, hv', hw', rfl⟩ F2 N2 K2
    have N3 := both_bins o0 NN N2 K2
    clear NN NP N2 FF
    k_steps
    refine .execs_cons (.Expr (.MethodCall ?_))
    k_steps
    rename Fr g' L' _ _ => F4
    rename News g' L' _ _ => N4
    have NP : News g' L' _ (encL c (x.upper (lessOf (b.ss.getD k.toNat 0))) v1 v2 v3) := both_e N4
    k_dflt (refine' .callWith_K0 (K := Mine.hd.heap_39 w.params) ?k1 ?k2 ?_; (case k1 => k_in); (case k2 => k_is))
    k_dflt (refine' CtrC.use (hB _ _ _) ?k1 ?k2 ?k3 ?k4 ?k5 ?k6 ?k7 ?k8 ?_; (case k1 => k_asm); (case k2 => exact F4); (case k3 => k_asm); (case k4 => exact NP); (case k5 => k_asm); (case k6 => exact rfl); (case k7 => exact bnd2 1 20 hd rfl); (case k8 => exact bnd2 3 200 hu rfl))
    clear hB
    rintro _ _ h3 tk3 ⟨rfl, w1, w2, w3, rfl⟩ F5 N5 K5
    have N6 := both_enc o0 N4 N5 K5
    refine .execs_nil (leaveK_ F5 N6 fun kF kN => ?_)
    exact hret _ _ _ _ ⟨rfl, _, _, _, _, _, _, _, by rw [e]; exact hv', by rw [e]; exact hw', by rw [e]⟩ kF kN (KG'.of_fr F5)
  · rename _ = _ => hb1
    rename ¬ _ < _ => hb3
    rename ¬ _ ≤ _ => hb2
    rename Fr g' L' _ _ => FF
    rename News g' L' _ _ => NN
    obtain ⟨v1, v2, v3, NN⟩ : ∃ v1 v2 v3, News g' L' _ (bothL c (x.lower (lessOf (b.ss.getD k.toNat 0))) v1 v2 v3 d vs ws n1 n2) := ⟨_, _, _, NN⟩
    have e : encPut x b k bit = ((x.lower (lessOf (b.ss.getD k.toNat 0))).widen, b.more k) := by unfold encPut; dsimp only; rw [if_pos hb1, if_neg hb2, if_neg hb3]
    have hY := EncOk.lower hx hrow.1 hrow.2.1 hx2
    have hC := fun t => more_ctr (prog := prog) (w := w) (mean := mean) (mg := mg) (mb := mb) (c := d) (b := b) (vs := vs) (ws := ws) (n1 := n1) (n2 := n2) (k := k) (t := t) ⟨o3, o4, o5⟩ hb hv hw k0 k1
    have hB := fun u1 u2 u3 => widen_ctr (prog := prog) (w := w) (mean := mean) (mg := mg) (mb := mb) (c := c) (x := x.lower (lessOf (b.ss.getD k.toNat 0))) (t1 := u1) (t2 := u2) (t3 := u3) oe hY (by show x.found.length < 90000; (first | lia | omega))
    have NP : News g' L' _ (binL d vs ws n1 n2) := both_b NN
    k_dflt (refine' Ctr.use (hC _) ?k1 ?k2 ?k3 ?k4 ?k5 ?k6 ?k7 ?k8 ?_; (case k1 => k_asm); (case k2 => exact FF); (case k3 => k_asm); (case k4 => exact NP); (case k5 => k_asm); (case k6 => exact rfl); (case k7 => exact bnd2 1 10 hd rfl); (case k8 => exact bnd2 3 100 hu rfl))
    clear hC
    rintro _ _ h2 tk2 ⟨rfl, vs', ws', m1, m2, hv', hw', rfl⟩ F2 N2 K2
    have N3 := both_bins o0 NN N2 K2
    clear NN NP N2 FF
    k_steps
    refine .execs_cons (.Expr (.MethodCall ?_))
    k_steps
    rename Fr g' L' _ _ => F4
    rename News g' L' _ _ => N4
    have NP : News g' L' _ (encL c (x.lower (lessOf (b.ss.getD k.toNat 0))) v1 v2 v3) := both_e N4
    k_dflt (refine' .callWith_K0 (K := Mine.hd.heap_39 w.params) ?k1 ?k2 ?_; (case k1 => k_in); (case k2 => k_is))
    k_dflt (refine' CtrC.use (hB _ _ _) ?k1 ?k2 ?k3 ?k4 ?k5 ?k6 ?k7 ?k8 ?_; (case k1 => k_asm); (case k2 => exact F4); (case k3 => k_asm); (case k4 => exact NP); (case k5 => k_asm); (case k6 => exact rfl); (case k7 => exact bnd2 1 20 hd rfl); (case k8 => exact bnd2 3 200 hu rfl))
    clear hB
    rintro _ _ h3 tk3 ⟨rfl, w1, w2, w3, rfl⟩ F5 N5 K5
    have N6 := both_enc o0 N4 N5 K5
    refine .execs_nil (leaveK_ F5 N6 fun kF kN => ?_)
    exact hret _ _ _ _ ⟨rfl, _, _, _, _, _, _, _, by rw [e]; exact hv', by rw [e]; exact hw', by rw [e]⟩ kF kN (KG'.of_fr F5)
  · rename _ ≠ _ => hb1
    rename _ ≤ _ => hb2
    rename Fr g' L' _ _ => FF
    rename News g' L' _ _ => NN
    obtain ⟨v1, v2, v3, NN⟩ : ∃ v1 v2 v3, News g' L' _ (bothL c (x.upper (lessOf (b.ss.getD k.toNat 0))) v1 v2 v3 d vs ws n1 n2) := ⟨_, _, _, NN⟩
    have e : encPut x b k bit = ((x.upper (lessOf (b.ss.getD k.toNat 0))).widen, b.less k) := by unfold encPut; dsimp only; rw [if_neg hb1, if_pos hb2]
    have hY := EncOk.upper hx hrow.1 hrow.2.1 hx2
    have hC := fun t => less_ctr (prog := prog) (w := w) (mean := mean) (mg := mg) (mb := mb) (c := d) (b := b) (vs := vs) (ws := ws) (n1 := n1) (n2 := n2) (k := k) (t := t) ⟨o3, o4, o5⟩ hb hv hw k0 k1
    have hB := fun u1 u2 u3 => widen_ctr (prog := prog) (w := w) (mean := mean) (mg := mg) (mb := mb) (c := c) (x := x.upper (lessOf (b.ss.getD k.toNat 0))) (t1 := u1) (t2 := u2) (t3 := u3) oe hY (by show x.found.length < 90000; (first | lia | omega))
    have NP : News g' L' _ (binL d vs ws n1 n2) := both_b NN
    k_dflt (refine' Ctr.use (hC _) ?k1 ?k2 ?k3 ?k4 ?k5 ?k6 ?k7 ?k8 ?_; (case k1 => k_asm); (case k2 => exact FF); (case k3 => k_asm); (case k4 => exact NP); (case k5 => k_asm); (case k6 => exact rfl); (case k7 => exact bnd2 1 10 hd rfl); (case k8 => exact bnd2 3 100 hu rfl))
    clear hC
    rintro _ _ h2 tk2 ⟨rfl, vs', ws', m1, m2, hv', hw', rfl⟩ F2 N2 K2
    have N3 := both_bins o0 NN N2 K2
    clear NN NP N2 FF
    k_steps
    refine .execs_cons (.Expr (.MethodCall ?_))
    k_steps
    rename Fr g' L' _ _ => F4
    rename News g' L' _ _ => N4
    have NP : News g' L' _ (encL c (x.upper (lessOf (b.ss.getD k.toNat 0))) v1 v2 v3) := both_e N4
    k_dflt (refine' .callWith_K0 (K := Mine.hd.heap_39 w.params) ?k1 ?k2 ?_; (case k1 => k_in); (case k2 => k_is))
    k_dflt (refine' CtrC.use (hB _ _ _) ?k1 ?k2 ?k3 ?k4 ?k5 ?k6 ?k7 ?k8 ?_; (case k1 => k_asm); (case k2 => exact F4); (case k3 => k_asm); (case k4 => exact NP); (case k5 => k_asm); (case k6 => exact rfl); (case k7 => exact bnd2 1 20 hd rfl); (case k8 => exact bnd2 3 200 hu rfl))
    clear hB
    rintro _ _ h3 tk3 ⟨rfl, w1, w2, w3, rfl⟩ F5 N5 K5
    have N6 := both_enc o0 N4 N5 K5
    refine .execs_nil (leaveK_ F5 N6 fun kF kN => ?_)
    exact hret _ _ _ _ ⟨rfl, _, _, _, _, _, _, _, by rw [e]; exact hv', by rw [e]; exact hw', by rw [e]⟩ kF kN (KG'.of_fr F5)
  · rename _ ≠ _ => hb1
    rename ¬ _ ≤ _ => hb2
    rename Fr g' L' _ _ => FF
    rename News g' L' _ _ => NN
    obtain ⟨v1, v2, v3, NN⟩ : ∃ v1 v2 v3, News g' L' _ (bothL c (x.lower (lessOf (b.ss.getD k.toNat 0))) v1 v2 v3 d vs ws n1 n2) := ⟨_, _, _, NN⟩
    have e : encPut x b k bit = ((x.lower (lessOf (b.ss.getD k.toNat 0))).widen, b.less k) := by unfold encPut; dsimp only; rw [if_neg hb1, if_neg hb2]
    have hY := EncOk.lower hx hrow.1 hrow.2.1 hx2
    have hC := fun t => less_ctr (prog := prog) (w := w) (mean := mean) (mg := mg) (mb := mb) (c := d) (b := b) (vs := vs) (ws := ws) (n1 := n1) (n2 := n2) (k := k) (t := t) ⟨o3, o4, o5⟩ hb hv hw k0 k1
    have hB := fun u1 u2 u3 => widen_ctr (prog := prog) (w := w) (mean := mean) (mg := mg) (mb := mb) (c := c) (x := x.lower (lessOf (b.ss.getD k.toNat 0))) (t1 := u1) (t2 := u2) (t3 := u3) oe hY (by show x.found.length < 90000; (first | lia | omega))
    have NP : News g' L' _ (binL d vs ws n1 n2) := both_b NN
    k_dflt (refine' Ctr.use (hC _) ?k1 ?k2 ?k3 ?k4 ?k5 ?k6 ?k7 ?k8 ?_; (case k1 => k_asm); (case k2 => exact FF); (case k3 => k_asm); (case k4 => exact NP); (case k5 => k_asm); (case k6 => exact rfl); (case k7 => exact bnd2 1 10 hd rfl); (case k8 => exact bnd2 3 100 hu rfl))
    clear hC
    rintro _ _ h2 tk2 ⟨rfl, vs', ws', m1, m2, hv', hw', rfl⟩ F2 N2 K2
    have N3 := both_bins o0 NN N2 K2
    clear NN NP N2 FF
    k_steps
    refine .execs_cons (.Expr (.MethodCall ?_))
    k_steps
    rename Fr g' L' _ _ => F4
    rename News g' L' _ _ => N4
    have NP : News g' L' _ (encL c (x.lower (lessOf (b.ss.getD k.toNat 0))) v1 v2 v3) := both_e N4
    k_dflt (refine' .callWith_K0 (K := Mine.hd.heap_39 w.params) ?k1 ?k2 ?_; (case k1 => k_in); (case k2 => k_is))
    k_dflt (refine' CtrC.use (hB _ _ _) ?k1 ?k2 ?k3 ?k4 ?k5 ?k6 ?k7 ?k8 ?_; (case k1 => k_asm); (case k2 => exact F4); (case k3 => k_asm); (case k4 => exact NP); (case k5 => k_asm); (case k6 => exact rfl); (case k7 => exact bnd2 1 20 hd rfl); (case k8 => exact bnd2 3 200 hu rfl))
    clear hB
    rintro _ _ h3 tk3 ⟨rfl, w1, w2, w3, rfl⟩ F5 N5 K5
    have N6 := both_enc o0 N4 N5 K5
    refine .execs_nil (leaveK_ F5 N6 fun kF kN => ?_)
    exact hret _ _ _ _ ⟨rfl, _, _, _, _, _, _, _, by rw [e]; exact hv', by rw [e]; exact hw', by rw [e]⟩ kF kN (KG'.of_fr F5)
end
section
theorem widenN_ok : ∀ (n : Nat) (y : Enc), EncOk y → 32768 ≤ y.size * 2 ^ n → EncOk (Enc.widenN n y) ∧ 32768 ≤ (Enc.widenN n y).size ∧ (Enc.widenN n y).found.length ≤ y.found.length + n ∧
    ∃ k : Nat, k ≤ n ∧ (Enc.widenN n y).size = y.size * 2 ^ k ∧ (Enc.widenN n y).lo = y.lo * 2 ^ k ∧ 8 * ((Enc.widenN n y).found.length : Int) - (Enc.widenN n y).left = 8 * (y.found.length : Int) - y.left + k ∧ ((Enc.widenN n y).size ≤ 65535 ∨ k = 0)
  | 0, y, h, hs => ⟨h, by simpa [Enc.widenN] using hs, Nat.le_refl _, 0, Nat.le_refl _, by simp [Enc.widenN], by simp [Enc.widenN], by simp [Enc.widenN], .inr rfl⟩
  | n + 1, y, h, hs => by
    by_cases hlt : y.size < 32768
    · rw [widen_go hlt]
      obtain ⟨d1, d2, d3, d4, d5⟩ := h.dbl hlt
      have e := Int.pow_succ 2 n
      obtain ⟨a, b, c, k, k1, k2, k3, k4, k5⟩ := widenN_ok n y.dbl d1 (by rw [d2, Int.mul_assoc, Int.mul_comm 2, ← e]; exact hs)
      have ek := Int.pow_succ 2 k
      refine ⟨a, b, by (first | lia | omega), k + 1, by (first | lia | omega), ?_, ?_, ?_, ?_⟩
      · rw [k2, d2, ek, Int.mul_assoc, Int.mul_comm 2]
      · rw [k3, d4, ek, Int.mul_assoc, Int.mul_comm 2]
      · rw [k4, d5]; (first | lia | omega)
      · left
        rcases k5 with k5 | k5
        · exact k5
        · rw [k2, d2, k5]; simp; (first | lia | omega)
    · rw [widen_stop hlt]
      exact ⟨h, by (first | lia | omega), by (first | lia | omega), 0, by (first | lia | omega), by simp, by simp, by simp, .inr rfl⟩
theorem widen_ok {y : Enc} (h : EncOk y) : EncOk y.widen ∧ 32768 ≤ y.widen.size ∧ y.widen.found.length ≤ y.found.length + 16 ∧
    ∃ k : Nat, k ≤ 16 ∧ y.widen.size = y.size * 2 ^ k ∧ y.widen.lo = y.lo * 2 ^ k ∧ 8 * (y.widen.found.length : Int) - y.widen.left = 8 * (y.found.length : Int) - y.left + k ∧ (y.widen.size ≤ 65535 ∨ k = 0) :=
  widenN_ok 16 y h (by have := h.size0; (first | lia | omega))

/-- an encoder and its bins between two puts -/
structure Good (n : Nat) (x : Enc) (b : Bin) : Prop where
  ok : EncOk x
  big : 32768 ≤ x.size
  len : x.found.length ≤ n
  bin : BinOk b
theorem Good.up {n n' : Nat} {x : Enc} {b : Bin} (g : Good n x b) (h : n ≤ n') : Good n' x b := ⟨g.ok, g.big, Nat.le_trans g.len h, g.bin⟩
theorem Good.put {n : Nat} {x : Enc} {b : Bin} (g : Good n x b) {k : Int} (k0 : 0 ≤ k) (k1 : k < 49) (bit : Int) : Good (n + 16) (encPut x b k bit).1 (encPut x b k bit).2 := by
  have q := g.bin.st k0 k1
  have r := row_in q.1 q.2
  have hl := g.ok.lower r.1 r.2.1 g.big
  have hu := g.ok.upper r.1 r.2.1 g.big
  have wl := widen_ok hl
  have wu := widen_ok hu
  have len := g.len
  have fl : (x.lower (lessOf (b.ss.getD k.toNat 0))).found = x.found := rfl
  have fu : (x.upper (lessOf (b.ss.getD k.toNat 0))).found = x.found := rfl
  rw [fl] at wl
  rw [fu] at wu
  have low : Good (n + 16) (x.lower (lessOf (b.ss.getD k.toNat 0))).widen (b.more k) := ⟨wl.1, wl.2.1, by (first | lia | omega), g.bin.more k0 k1⟩
  have upp : Good (n + 16) (x.upper (lessOf (b.ss.getD k.toNat 0))).widen (b.more k) := ⟨wu.1, wu.2.1, by (first | lia | omega), g.bin.more k0 k1⟩
  have low2 : Good (n + 16) (x.lower (lessOf (b.ss.getD k.toNat 0))).widen (b.less k) := ⟨wl.1, wl.2.1, by (first | lia | omega), g.bin.less k0 k1⟩
  have upp2 : Good (n + 16) (x.upper (lessOf (b.ss.getD k.toNat 0))).widen (b.less k) := ⟨wu.1, wu.2.1, by (first | lia | omega), g.bin.less k0 k1⟩
  unfold encPut
  dsimp only
  by_cases c1 : bit = b.es.getD k.toNat 0
  · rw [if_pos c1]
    by_cases c2 : x.size - lessOf (b.ss.getD k.toNat 0) ≥ 32768
    · rw [if_pos c2]
      exact ⟨hl, c2, by show x.found.length ≤ _; (first | lia | omega), g.bin⟩
    · rw [if_neg c2]
      by_cases c3 : x.size - lessOf (b.ss.getD k.toNat 0) < lessOf (b.ss.getD k.toNat 0)
      · rw [if_pos c3]; exact upp
      · rw [if_neg c3]; exact low
  · rw [if_neg c1]
    by_cases c3 : x.size - lessOf (b.ss.getD k.toNat 0) ≥ lessOf (b.ss.getD k.toNat 0)
    · rw [if_pos c3]; exact upp2
    · rw [if_neg c3]; exact low2
/-- decisions put one by one -/
noncomputable def encRun (q : Enc × Bin) (ds : List (Int × Int)) : Enc × Bin := ds.foldl (fun q d => encPut q.1 q.2 d.1 d.2) q
theorem encRun_cons (q : Enc × Bin) (d : Int × Int) (ds : List (Int × Int)) : encRun q (d :: ds) = encRun (encPut q.1 q.2 d.1 d.2) ds := rfl
theorem encRun_append (q : Enc × Bin) (a b : List (Int × Int)) : encRun q (a ++ b) = encRun (encRun q a) b := List.foldl_append ..
noncomputable def Decs (ds : List (Int × Int)) : Prop := ∀ d ∈ ds, 0 ≤ d.1 ∧ d.1 < 49
theorem Good.run {ds : List (Int × Int)} (hd : Decs ds) : ∀ {n : Nat} {x : Enc} {b : Bin}, Good n x b → Good (n + 16 * ds.length) (encRun (x, b) ds).1 (encRun (x, b) ds).2 := by
  induction ds with
  | nil => intro n x b g; exact g
  | cons d ds ih =>
    intro n x b g
    have h := hd d (by simp)
    have := ih (fun e he => hd e (by simp [he])) (g.put h.1 h.2 d.2)
    rw [encRun_cons]
    exact this.up (by simp only [List.length_cons]; (first | lia | omega))
/-- what put_size puts behind its first one -/
noncomputable def upDecs : Nat → Int → Int → Int → List (Int × Int)
  | 0, _, at_, _ => [(at_, 0)]
  | n + 1, high, at_, rest => if rest ≥ 2 * high then (at_, 1) :: upDecs n (high * 2) (at_ + 1) rest else [(at_, 0)]
noncomputable def upEnd : Nat → Int → Int → Int → Int × Int
  | 0, high, at_, _ => (high, at_)
  | n + 1, high, at_, rest => if rest ≥ 2 * high then upEnd n (high * 2) (at_ + 1) rest else (high, at_)
noncomputable def sizeDecs (rest at_ : Int) : List (Int × Int) := if rest > 0 then (at_, 1) :: upDecs 15 1 20 rest else [(at_, 0)]
noncomputable def sizeEnd (rest at_ : Int) : Int × Int := if rest > 0 then upEnd 15 1 20 rest else (0, at_)
/-- what put_bits puts -/
noncomputable def bitDecs : Nat → Int → Int → Int → List (Int × Int)
  | 0, _, _, _ => []
  | n + 1, high, at_, rest => if high > 1 then (at_, rest / (high / 2) % 2) :: bitDecs n (high / 2) at_ rest else []
end
section
theorem frCast {g h : Heap} {L : Addr} {m m' : Str → Option Value} (F : Fr g L h m) (e : ∀ y, m y = m' y) : Fr g L h m' := (funext e : m = m') ▸ F
/-- the locals' maps agree but at ks -/
noncomputable def Off (ks : List Str) (M m : Str → Option Value) : Prop := ∀ y, y ∉ ks → M y = m y
theorem off_refl {ks : List Str} {m : Str → Option Value} : Off ks m m := fun _ _ => rfl
theorem off_l {ks : List Str} {k : Str} {v : Option Value} {M m : Str → Option Value} (hk : decide (k ∈ ks) = true) (h : Off ks M m) : Off ks (fun y => if y = k then v else M y) m := fun y hy =>
  (if_neg (fun (e : y = k) => hy (e ▸ of_decide_eq_true hk))).trans (h y hy)
theorem off_r {ks : List Str} {k : Str} {v : Option Value} {M m : Str → Option Value} (hk : decide (k ∈ ks) = true) (h : Off ks m M) : Off ks m (fun y => if y = k then v else M y) := fun y hy =>
  (h y hy).trans (if_neg (fun (e : y = k) => hy (e ▸ of_decide_eq_true hk))).symm
theorem frNorm {g h : Heap} {L : Addr} {M M' : Str → Option Value} (ks : List Str) (F : Fr g L h M) (o : Off ks M M') (e : ks.map M = ks.map M') : Fr g L h M' :=
  (funext fun y => if hy : y ∈ ks then List.map_inj_left.mp e y hy else o y hy : M = M') ▸ F
noncomputable abbrev tupV (l : List Value) : Obj := { cls := .type "tuple", data := .seq l.toArray }
theorem upDecs_stop {n : Nat} {hi a r : Int} (h : ¬ r ≥ 2 * hi) : upDecs n hi a r = [(a, 0)] ∧ upEnd n hi a r = (hi, a) := by
  cases n with
  | zero => exact ⟨rfl, rfl⟩
  | succ n => exact ⟨by rw [upDecs, if_neg h], by rw [upEnd, if_neg h]⟩
theorem upDecs_go {n : Nat} {hi a r : Int} (h : r ≥ 2 * hi) : upDecs (n + 1) hi a r = (a, 1) :: upDecs n (hi * 2) (a + 1) r ∧ upEnd (n + 1) hi a r = upEnd n (hi * 2) (a + 1) r :=
  ⟨by rw [upDecs, if_pos h], by rw [upEnd, if_pos h]⟩
inductive SizeR (c : EncAt) (d : BinAt) (q : Enc × Bin) (e : Int × Int) (v : Value) (B : List (Addr × Obj)) : Prop
  | mk : ∀ p ta tb t1 t2 t3 vs ws n1 n2, v = .ref p → IntsAre vs q.2.ss → IntsAre ws q.2.es → B = (p, tupV [.int e.1 ta, .int e.2 tb]) :: bothL c q.1 t1 t2 t3 d vs ws n1 n2 → SizeR c d q e v B
inductive BothR (r : Value) (c : EncAt) (d : BinAt) (q : Enc × Bin) (v : Value) (B : List (Addr × Obj)) : Prop
  | mk : ∀ t1 t2 t3 vs ws n1 n2, v = r → IntsAre vs q.2.ss → IntsAre ws q.2.es → B = bothL c q.1 t1 t2 t3 d vs ws n1 n2 → BothR r c d q v B
inductive Inv_PSize_0 (s : Shared) (g' : Heap) (L' : Addr) (v : Tok) (rest : Int) (u : Tok) (k : Int) (t : Tok) (d : BinAt) (c : EncAt) (n : Nat) (x : Enc) (b : Bin) (n' : Nat) (s₁ : Shared) : Prop
  | mk : ∀ y b' hi at_ ta th h tk u1 u2 u3 vs ws n1 n2, (s₁ = { s with heap := h, toks := tk }) → (Fr g' L' h (fun zz => if zz = Str.ofString "at" then some (.int at_ ta) else if zz = Str.ofString "high" then some (.int hi th) else List.lookup zz [(Str.ofString "sizes", .int 20 v), (Str.ofString "rest", .int rest u), (Str.ofString "at", .int k t), (Str.ofString "bins", .ref d.e), (Str.ofString "encoder", .ref c.e)])) → (News g' L' h (bothL c y u1 u2 u3 d vs ws n1 n2)) → (Good (n + 16 * (16 - n')) y b') → (IntsAre vs b'.ss) → (IntsAre ws b'.es) → (1 ≤ hi) → (rest < 2 * hi * 2 ^ n') → (20 ≤ at_) → (at_ + n' ≤ 35) → (encRun (y, b') (upDecs n' hi at_ rest) = encRun (x, b) (sizeDecs rest k)) → (upEnd n' hi at_ rest = sizeEnd rest k) → Inv_PSize_0 s g' L' v rest u k t d c n x b n' s₁
set_option maxHeartbeats 8000000 in
theorem psize_ctr {prog : Program} {w : World} {mean : ExcName → Option Value} {mg mb : Str → Option Value} {c : EncAt} {x : Enc} {t1 t2 t3 : Tok} {d : BinAt} {b : Bin} {vs ws : List Value} {n1 n2 n : Nat} {k rest : Int} {t u v : Tok}
    (o : apart c d) (hg : Good n x b) (hn : n ≤ 80000) (hv : IntsAre vs b.ss) (hw : IntsAre ws b.es) (k0 : 0 ≤ k) (k1 : k < 49) (r0 : 0 ≤ rest) (r1 : rest < 32768) :
    CtrC prog w mean mg mb 60 60 1000 [.ref c.e, .ref d.e, .int k t, .int rest u, .int 20 v] (bothL c x t1 t2 t3 d vs ws n1 n2)
      (SizeR c d (encRun (x, b) (sizeDecs rest k)) (sizeEnd rest k)) := by
  intro dp un gd cn cs a ccd cl outer A₀ base h₀ L m s Q B F X N T hk hd hu hret
  refine .call ?_
  k_dflt (refine' codeC.code_def ?k1 ?k2 ?k3 ?k4 ?k5 ?kA ?kF ?kK ?k6 ?k7 ?k8 ?k9 ?kB ?_ ?c2 ?c3 ?c4 ?c5; k_extra "m_open")
  intro g' L' h' KG' FG' F' N' B' X' T' lN'
  try dsimp only
  first | (refine wpAny_folded ?_; intro M9 e9 A9; k_fold) | (refine wpC.folded ?_; intro M9 e9 A9 q9)
  k_extra "m_start"
  refine .execs_cons (.IfL ?_)
  k_steps
  · rename 0 < rest => hr0
    refine .execs_cons (.Expr (.MethodCall ?_))
    k_steps
    k_dflt (refine' .callWith_KL (K := Mine.hd.heap_39 w.params) ?k1 ?_; (case k1 => k_is); k_whole)
    k_steps
    rename Fr g' L' _ _ => FF
    rename News g' L' _ _ => NN
    have NP : ∃ u1 u2 u3, News g' L' _ (bothL c x u1 u2 u3 d vs ws n1 n2) := ⟨_, _, _, NN⟩
    obtain ⟨u1, u2, u3, NP⟩ := NP
    have hP := fun bit t u => put_ctr (prog := prog) (w := w) (mean := mean) (mg := mg) (mb := mb) (c := c) (x := x) (t1 := u1) (t2 := u2) (t3 := u3) (d := d) (b := b) (vs := vs) (ws := ws) (n1 := n1) (n2 := n2) (k := _) (bit := bit) (t := t) (u := u) o hg.ok hg.big (by have := hg.len; (first | lia | omega)) hg.bin ‹IntsAre vs _› ‹IntsAre ws _› k0 k1
    k_dflt (refine' CtrC.use (hP _ _ _) ?k1 ?k2 ?k3 ?k4 ?k5 ?k6 ?k7 ?k8 ?_; (case k1 => k_asm); (case k2 => exact FF); (case k3 => k_asm); (case k4 => exact NP); (case k5 => k_asm); (case k6 => exact rfl); (case k7 => exact bnd2 1 40 hd rfl); (case k8 => exact bnd2 3 500 hu rfl))
    clear hP NN NP FF
    rintro _ _ h2 tk2 ⟨rfl, w1, w2, w3, vs2, ws2, m1, m2, hv2, hw2, rfl⟩ F2 N2 K2
    have hg1 := hg.put k0 k1 1
    k_extra "m_start"
    k_extra "m_start"
    rename Fr g' L' _ _ => F3
    rename News g' L' _ _ => N3
    obtain ⟨ta0, th0, F4⟩ : ∃ ta th, Fr g' L' _ (fun y => if y = Str.ofString "at" then some (.int 20 ta) else if y = Str.ofString "high" then some (.int 1 th) else List.lookup y [(Str.ofString "sizes", .int 20 v), (Str.ofString "rest", .int rest u), (Str.ofString "at", .int k t), (Str.ofString "bins", .ref d.e), (Str.ofString "encoder", .ref c.e)]) := ⟨_, _, (frNorm [Str.ofString "at", Str.ofString "high"] F3 (by (repeat refine off_l (by exact rfl) ?_); (repeat refine off_r (by exact rfl) ?_); exact off_refl) rfl)⟩
    refine .execs_cons (wpC.While (n₀ := 15) (Inv_PSize_0 s g' L' v rest u k t d c n x b)
      ⟨(encPut x b k 1).1, (encPut x b k 1).2, 1, 20, ta0, th0, _, _, _, _, _, vs2, ws2, m1, m2, rfl, F4, N3, hg1.up (by (first | lia | omega)), hv2, hw2, by decide, by (first | lia | omega), by decide, by decide, by unfold sizeDecs; rw [if_pos hr0]; rfl, by unfold sizeEnd; rw [if_pos hr0]⟩ ?_)
    rintro n' s₁ ⟨y, b', hi, at_, ta, th, h, tk, u1, u2, u3, vs, ws, n1, n2, rfl, FF, NN, hy, hv, hw, q0, q1, q2, q3, qr, qe⟩ P9
    clear F3 F4 N3 hg1
    dsimp only
    k_steps
    · rename 2 * hi ≤ rest => hge
      obtain ⟨n'', rfl⟩ : ∃ k, n' = k + 1 := by
        cases n' with
        | zero => exfalso; simp at q1; (first | lia | omega)
        | succ k => exact ⟨k, rfl⟩
      have e := upDecs_go (n := n'') (a := at_) hge
      rw [e.1] at qr
      rw [e.2] at qe
      refine .execs_cons (.Expr (.MethodCall ?_))
      k_steps
      k_dflt (refine' .callWith_KL (K := Mine.hd.heap_39 w.params) ?k1 ?_; (case k1 => k_is); k_whole)
      k_steps
      rename Fr g' L' _ _ => FF
      rename News g' L' _ _ => NN
      have NP : ∃ u1 u2 u3, News g' L' _ (bothL c y u1 u2 u3 d vs ws n1 n2) := ⟨_, _, _, NN⟩
      obtain ⟨u1, u2, u3, NP⟩ := NP
      have hP := fun bit t u => put_ctr (prog := prog) (w := w) (mean := mean) (mg := mg) (mb := mb) (c := c) (x := y) (t1 := u1) (t2 := u2) (t3 := u3) (d := d) (b := b') (vs := vs) (ws := ws) (n1 := n1) (n2 := n2) (k := _) (bit := bit) (t := t) (u := u) o hy.ok hy.big (by have := hy.len; (first | lia | omega)) hy.bin ‹IntsAre vs _› ‹IntsAre ws _› (show 0 ≤ at_ by (first | lia | omega)) (show at_ < 49 by (first | lia | omega))
      k_dflt (refine' CtrC.use (hP _ _ _) ?k1 ?k2 ?k3 ?k4 ?k5 ?k6 ?k7 ?k8 ?_; (case k1 => k_asm); (case k2 => exact FF); (case k3 => k_asm); (case k4 => exact NP); (case k5 => k_asm); (case k6 => exact rfl); (case k7 => exact bnd2 1 40 hd rfl); (case k8 => exact bnd2 3 500 hu rfl))
      clear hP NN NP FF
      rintro _ _ h2 tk2 ⟨rfl, w1, w2, w3, vs2, ws2, m1, m2, hv2, hw2, rfl⟩ F2 N2 K2
      have hg2 := hy.put (show 0 ≤ at_ by (first | lia | omega)) (show at_ < 49 by (first | lia | omega)) 1
      k_extra "m_start"
      k_extra "m_start"
      rename Fr g' L' _ _ => F3
      rename News g' L' _ _ => N3
      obtain ⟨ta2, th2, F4⟩ : ∃ ta th, Fr g' L' _ (fun y => if y = Str.ofString "at" then some (.int (at_ + 1) ta) else if y = Str.ofString "high" then some (.int (hi * 2) th) else List.lookup y [(Str.ofString "sizes", .int 20 v), (Str.ofString "rest", .int rest u), (Str.ofString "at", .int k t), (Str.ofString "bins", .ref d.e), (Str.ofString "encoder", .ref c.e)]) := ⟨_, _, (frNorm [Str.ofString "at", Str.ofString "high"] F3 (by (repeat refine off_l (by exact rfl) ?_); (repeat refine off_r (by exact rfl) ?_); exact off_refl) rfl)⟩
      refine .execs_nil ⟨n'', Nat.lt_succ_self _, (encPut y b' at_ 1).1, (encPut y b' at_ 1).2, hi * 2, at_ + 1, ta2, th2, _, _, _, _, _, vs2, ws2, m1, m2, rfl, F4, N3, hg2.up (by (first | lia | omega)), hv2, hw2, by (first | lia | omega), ?_, by (first | lia | omega), by (first | lia | omega), qr, qe⟩
      have := Int.pow_succ 2 n''
      rw [this] at q1
      have e3 : 2 * hi * (2 ^ n'' * 2) = 2 * (hi * 2) * 2 ^ n'' := by simp only [Int.mul_assoc, Int.mul_comm, Int.mul_left_comm]
      (first | lia | omega)
    · rename ¬ 2 * hi ≤ rest => hge
      have e := upDecs_stop (n := n') (a := at_) hge
      rw [e.1] at qr
      rw [e.2] at qe
      refine .execs_nil ?_
      dsimp only
      refine .execs_cons (.Expr (.MethodCall ?_))
      k_steps
      k_dflt (refine' .callWith_KL (K := Mine.hd.heap_39 w.params) ?k1 ?_; (case k1 => k_is); k_whole)
      k_steps
      rename Fr g' L' _ _ => FF
      rename News g' L' _ _ => NN
      have NP : ∃ u1 u2 u3, News g' L' _ (bothL c y u1 u2 u3 d vs ws n1 n2) := ⟨_, _, _, NN⟩
      obtain ⟨u1, u2, u3, NP⟩ := NP
      have hP := fun bit t u => put_ctr (prog := prog) (w := w) (mean := mean) (mg := mg) (mb := mb) (c := c) (x := y) (t1 := u1) (t2 := u2) (t3 := u3) (d := d) (b := b') (vs := vs) (ws := ws) (n1 := n1) (n2 := n2) (k := _) (bit := bit) (t := t) (u := u) o hy.ok hy.big (by have := hy.len; (first | lia | omega)) hy.bin ‹IntsAre vs _› ‹IntsAre ws _› (show 0 ≤ at_ by (first | lia | omega)) (show at_ < 49 by (first | lia | omega))
      k_dflt (refine' CtrC.use (hP _ _ _) ?k1 ?k2 ?k3 ?k4 ?k5 ?k6 ?k7 ?k8 ?_; (case k1 => k_asm); (case k2 => exact FF); (case k3 => k_asm); (case k4 => exact NP); (case k5 => k_asm); (case k6 => exact rfl); (case k7 => exact bnd2 1 40 hd rfl); (case k8 => exact bnd2 3 500 hu rfl))
      clear hP NN NP FF
      rintro _ _ h2 tk2 ⟨rfl, w1, w2, w3, vs2, ws2, m1, m2, hv2, hw2, rfl⟩ F2 N2 K2
      refine .consL ?_
      k_steps
      rename News h₀ L _ _ => kN
      rename Fr h₀ L _ _ => kF
      rename Fr g' L' _ _ => FF
      have ee : encRun (x, b) (sizeDecs rest k) = encPut y b' at_ 0 := by rw [← qr]; rfl
      rw [ee, ← qe] at hret
      exact hret _ _ _ _ ⟨_, _, _, _, _, _, vs2, ws2, m1, m2, rfl, hv2, hw2, rfl⟩ kF kN (KG'.of_fr FF)
  · rename ¬ 0 < rest => hr0
    refine .execs_nil ?_
    dsimp only
    refine .execs_cons (.Expr (.MethodCall ?_))
    k_steps
    k_dflt (refine' .callWith_KL (K := Mine.hd.heap_39 w.params) ?k1 ?_; (case k1 => k_is); k_whole)
    k_steps
    rename Fr g' L' _ _ => FF
    rename News g' L' _ _ => NN
    have NP : ∃ u1 u2 u3, News g' L' _ (bothL c x u1 u2 u3 d vs ws n1 n2) := ⟨_, _, _, NN⟩
    obtain ⟨u1, u2, u3, NP⟩ := NP
    have hP := fun bit t u => put_ctr (prog := prog) (w := w) (mean := mean) (mg := mg) (mb := mb) (c := c) (x := x) (t1 := u1) (t2 := u2) (t3 := u3) (d := d) (b := b) (vs := vs) (ws := ws) (n1 := n1) (n2 := n2) (k := _) (bit := bit) (t := t) (u := u) o hg.ok hg.big (by have := hg.len; (first | lia | omega)) hg.bin ‹IntsAre vs _› ‹IntsAre ws _› k0 k1
    k_dflt (refine' CtrC.use (hP _ _ _) ?k1 ?k2 ?k3 ?k4 ?k5 ?k6 ?k7 ?k8 ?_; (case k1 => k_asm); (case k2 => exact FF); (case k3 => k_asm); (case k4 => exact NP); (case k5 => k_asm); (case k6 => exact rfl); (case k7 => exact bnd2 1 40 hd rfl); (case k8 => exact bnd2 3 500 hu rfl))
    clear hP NN NP FF
    rintro _ _ h2 tk2 ⟨rfl, w1, w2, w3, vs2, ws2, m1, m2, hv2, hw2, rfl⟩ F2 N2 K2
    refine .consL ?_
    k_steps
    rename News h₀ L _ _ => kN
    rename Fr h₀ L _ _ => kF
    rename Fr g' L' _ _ => FF
    have ee : encRun (x, b) (sizeDecs rest k) = encPut x b k 0 := by unfold sizeDecs; rw [if_neg hr0]; rfl
    have es : sizeEnd rest k = (0, k) := by unfold sizeEnd; rw [if_neg hr0]
    rw [ee, es] at hret
    exact hret _ _ _ _ ⟨_, _, _, _, _, _, vs2, ws2, m1, m2, rfl, hv2, hw2, rfl⟩ kF kN (KG'.of_fr FF)
end
section
theorem bitDecs_stop {n : Nat} {hi a r : Int} (h : ¬ hi > 1) : bitDecs n hi a r = [] := by
  cases n with
  | zero => rfl
  | succ n => rw [bitDecs, if_neg h]
theorem bitDecs_go {n : Nat} {hi a r : Int} (h : hi > 1) : bitDecs (n + 1) hi a r = (a, r / (hi / 2) % 2) :: bitDecs n (hi / 2) a r := by rw [bitDecs, if_pos h]
inductive Inv_PBits_0 (s : Shared) (g' : Heap) (L' : Addr) (rest : Int) (v : Tok) (high : Int) (u : Tok) (k : Int) (t : Tok) (d : BinAt) (c : EncAt) (n : Nat) (x : Enc) (b : Bin) (n' : Nat) (s₁ : Shared) : Prop
  | mk : ∀ y b' hi th h tk u1 u2 u3 vs ws n1 n2, (s₁ = { s with heap := h, toks := tk }) → (Fr g' L' h (fun zz => if zz = Str.ofString "high" then some (.int hi th) else List.lookup zz [(Str.ofString "rest", .int rest v), (Str.ofString "high", .int high u), (Str.ofString "at", .int k t), (Str.ofString "bins", .ref d.e), (Str.ofString "encoder", .ref c.e)])) → (News g' L' h (bothL c y u1 u2 u3 d vs ws n1 n2)) → (Good (n + 16 * (15 - n')) y b') → (IntsAre vs b'.ss) → (IntsAre ws b'.es) → (0 ≤ hi) → (hi ≤ high) → (hi < 2 * 2 ^ n') → (n' ≤ 15) → (encRun (y, b') (bitDecs n' hi k rest) = encRun (x, b) (bitDecs 15 high k rest)) → Inv_PBits_0 s g' L' rest v high u k t d c n x b n' s₁
set_option maxHeartbeats 8000000 in
theorem pbits_ctr {prog : Program} {w : World} {mean : ExcName → Option Value} {mg mb : Str → Option Value} {c : EncAt} {x : Enc} {t1 t2 t3 : Tok} {d : BinAt} {b : Bin} {vs ws : List Value} {n1 n2 n : Nat} {k high rest : Int} {t u v : Tok}
    (o : apart c d) (hg : Good n x b) (hn : n ≤ 80000) (hv : IntsAre vs b.ss) (hw : IntsAre ws b.es) (k0 : high > 1 → 0 ≤ k) (k1 : high > 1 → k < 49) (r0 : 0 ≤ rest) (q0 : 0 ≤ high) (q1 : high < 65536) :
    CtrC prog w mean mg mb 74 60 1000 [.ref c.e, .ref d.e, .int k t, .int high u, .int rest v] (bothL c x t1 t2 t3 d vs ws n1 n2)
      (BothR .none c d (encRun (x, b) (bitDecs 15 high k rest))) := by
  intro dp un gd cn cs a ccd cl outer A₀ base h₀ L m s Q B F X N T hk hd hu hret
  refine .call ?_
  k_dflt (refine' codeC.code_def ?k1 ?k2 ?k3 ?k4 ?k5 ?kA ?kF ?kK ?k6 ?k7 ?k8 ?k9 ?kB ?_ ?c2 ?c3 ?c4 ?c5; k_extra "m_open")
  intro g' L' h' KG' FG' F' N' B' X' T' lN'
  try dsimp only
  first | (refine wpAny_folded ?_; intro M9 e9 A9; k_fold) | (refine wpC.folded ?_; intro M9 e9 A9 q9)
  obtain ⟨th0, F4⟩ : ∃ th, Fr g' L' _ (fun y => if y = Str.ofString "high" then some (.int high th) else List.lookup y [(Str.ofString "rest", .int rest v), (Str.ofString "high", .int high u), (Str.ofString "at", .int k t), (Str.ofString "bins", .ref d.e), (Str.ofString "encoder", .ref c.e)]) := ⟨_, (frNorm [Str.ofString "high"] F' (by (repeat refine off_l (by exact rfl) ?_); (repeat refine off_r (by exact rfl) ?_); exact off_refl) rfl)⟩
  refine .execs_cons (wpC.While (n₀ := 15) (Inv_PBits_0 s g' L' rest v high u k t d c n x b)
      ⟨x, b, high, th0, _, _, t1, t2, t3, vs, ws, n1, n2, rfl, F4, N', hg.up (by (first | lia | omega)), hv, hw, q0, Int.le_refl _, by (first | lia | omega), Nat.le_refl _, rfl⟩ ?_)
  clear F4 N' F'
  rintro n' s₁ ⟨y, b', hi, th, h, tk, u1, u2, u3, vs, ws, n1, n2, rfl, FF, NN, hy, hv, hw, q0, qh, q1, q2, qr⟩ P9
  dsimp only
  k_steps
  · rename 1 < hi => hge
    obtain ⟨n'', rfl⟩ : ∃ k, n' = k + 1 := by
      cases n' with
      | zero => exfalso; simp at q1; (first | lia | omega)
      | succ k => exact ⟨k, rfl⟩
    have kk0 := k0 (by (first | lia | omega))
    have kk1 := k1 (by (first | lia | omega))
    rw [bitDecs_go hge] at qr
    have e1 : Int.fdiv hi 2 = hi / 2 := Int.fdiv_eq_ediv_of_nonneg _ (by decide)
    have e2 : Int.fdiv rest (hi / 2) = rest / (hi / 2) := Int.fdiv_eq_ediv_of_nonneg _ (by (first | lia | omega))
    have e3 : Int.fmod (rest / (hi / 2)) 2 = rest / (hi / 2) % 2 := Int.fmod_eq_emod_of_nonneg _ (by decide)
    have h2 : ¬ hi / 2 = 0 := by (first | lia | omega)
    k_extra "m_start"
    try simp only [e1] at *
    refine .execs_cons (.Expr (.MethodCall ?_))
    k_steps
    k_dflt (refine' .callWith_KL (K := Mine.hd.heap_39 w.params) ?k1 ?_; (case k1 => k_is); k_whole)
    k_steps
    rename Fr g' L' _ _ => FF
    rename News g' L' _ _ => NN
    have NP : ∃ u1 u2 u3, News g' L' _ (bothL c y u1 u2 u3 d vs ws n1 n2) := ⟨_, _, _, NN⟩
    obtain ⟨u1, u2, u3, NP⟩ := NP
    have hP := fun bit t u => put_ctr (prog := prog) (w := w) (mean := mean) (mg := mg) (mb := mb) (c := c) (x := y) (t1 := u1) (t2 := u2) (t3 := u3) (d := d) (b := b') (vs := vs) (ws := ws) (n1 := n1) (n2 := n2) (k := _) (bit := bit) (t := t) (u := u) o hy.ok hy.big (by have := hy.len; (first | lia | omega)) hy.bin ‹IntsAre vs _› ‹IntsAre ws _› kk0 kk1
    k_dflt (refine' CtrC.use (hP _ _ _) ?k1 ?k2 ?k3 ?k4 ?k5 ?k6 ?k7 ?k8 ?_; (case k1 => k_asm); (case k2 => exact FF); (case k3 => k_asm); (case k4 => exact NP); (case k5 => k_asm); (case k6 => exact rfl); (case k7 => exact bnd2 1 40 hd rfl); (case k8 => exact bnd2 3 500 hu rfl))
    clear hP NN NP FF
    rintro _ _ h2 tk2 ⟨rfl, w1, w2, w3, vs2, ws2, m1, m2, hv2, hw2, rfl⟩ F2 N2 K2
    have hg2 := hy.put kk0 kk1 (rest / (hi / 2) % 2)
    rw [e2, e3] at hv2 hw2 N2
    obtain ⟨th2, F4⟩ : ∃ th, Fr g' L' _ (fun y => if y = Str.ofString "high" then some (.int (hi / 2) th) else List.lookup y [(Str.ofString "rest", .int rest v), (Str.ofString "high", .int high u), (Str.ofString "at", .int k t), (Str.ofString "bins", .ref d.e), (Str.ofString "encoder", .ref c.e)]) := ⟨_, (frNorm [Str.ofString "high"] F2 (by (repeat refine off_l (by exact rfl) ?_); (repeat refine off_r (by exact rfl) ?_); exact off_refl) rfl)⟩
    dsimp only
    refine .execs_nil ⟨n'', Nat.lt_succ_self _, (encPut y b' k (rest / (hi / 2) % 2)).1, (encPut y b' k (rest / (hi / 2) % 2)).2, hi / 2, th2, _, _, _, _, _, vs2, ws2, m1, m2, rfl, F4, N2, hg2.up (by (first | lia | omega)), hv2, hw2, by (first | lia | omega), by (first | lia | omega), ?_, by (first | lia | omega), qr⟩
    have := Int.pow_succ 2 n''
    (first | lia | omega)
  · rename ¬ 1 < hi => hge
    rw [bitDecs_stop hge] at qr
    have qr' : encRun (x, b) (bitDecs 15 high k rest) = (y, b') := qr.symm
    rw [qr'] at hret
    exact .execs_nil (leaveK_ FF NN fun kF kN => hret _ _ _ _ ⟨_, _, _, vs, ws, n1, n2, rfl, hv, hw, rfl⟩ kF kN (KG'.of_fr FF))
end
section
section
variable {prog : Program} {w : World} {A : Around} {K : Frag} {C : Addr} {R : Result → Shared → Prop} {h : Heap} {g : Array GenState} {d : Drawn} {t : Nat} {os : OsState}
theorem wpC.nd_load {α : Type} {M : Model} {E : Value → Shared → Prop} {s : Shared} {Q : α → Shared → Prop} {a : Addr} {p : Option Value} {k : Obj → Sem α} {o : Obj} (ho : s.heap.get? a = some o) (h : wpC M A (k o) Q E s) : wpC M A (.load a p k) Q E s := fun Γ q hΓ hC => ⟨o, ho, h Γ q hΓ hC⟩

theorem codeC.make_core {rest : List Value} {init : Value} (Y : Makes (model prog w) h C) (hi : Looks (model prog w) h (typeLookup (.ref C) "__init__") (some init))
    (hb : ∀ self, Looks (model prog w) h (bindSpecial init self) (init, [self])) (hne : (some init != some (Value.builtin "object.__init__")) = true)
    (hq : codeC (model prog w) (A.under (.builtin "type.__call__" ⟨.ref C :: rest, []⟩)) (.call init ⟨.ref (h.objs.size + 1) :: rest, []⟩) (fun r s' => r = .ok (.ret .none) ∧ R (.ok (.ret (.ref (h.objs.size + 1)))) s') ⟨(h.push emptyDict).push (instObj C h.objs.size), g, d, t, os⟩) :
    codeC (model prog w) A (.call (.ref C) ⟨rest, []⟩) R ⟨h, g, d, t, os⟩ := by
  have Y' := Y
  obtain ⟨⟨oc, od, cd, sl, hC, e1, e2, e4⟩, made, base, self, top, call, typ⟩ := Y
  refine .tree ?_
  show wpC _ _ (callAny (.ref C) _) _ _ _
  refine .nd_load hC ?_
  show wpC _ _ (callAny.viaDunder (.ref C) _) _ _ _
  unfold callAny.viaDunder
  refine .bindL (call.at ?_)
  dsimp only
  rw [tc_bind]
  refine .bindL (wpAny_pure (.bindL (wpAny_pure ?_)))
  refine .pure (a := Fin.again (.call (.builtin "type.__call__") ⟨.ref C :: rest, []⟩)) ⟨rfl, rfl, ?_⟩
  refine .call_builtin (Code.quiet_builtin _ (by decide +kernel)) (BA.free_of (by decide +kernel)) entry_typeCall (check_slot tc_kind tc_split typ (tc_args _ _ _) ?_)
  unfold Builtin.«type.__call__»
  have hm : Looks (model prog w) h (mroOf (.ref C)) cd.mro := ((Looks.ld (part := none) hC).andThen .now).andThen .now
  simp only [show ((Value.ref C) == Value.type "type") = false from rfl, Bool.false_eq_true, if_false, pure_bind]
  refine .bindL (hm.at ?_)
  simp only [e4, Bool.false_eq_true, if_false]
  refine .bindL (made.at ?_)
  refine .bindL (wpAny_holding (wpAny_call (new_K Y' hi (.inl hne) ?_)))
  have k : ∀ b o, h.get? b = some o → ((h.push emptyDict).push (instObj C h.objs.size)).get? b = some o := fun b o e => Heap.get?_push_of_some _ (Heap.get?_push_of_some _ e)
  have hx : ((h.push emptyDict).push (instObj C h.objs.size)).get? (h.objs.size + 1) = some (instObj C h.objs.size) := by heap_get
  have t1 : Looks (model prog w) ((h.push emptyDict).push (instObj C h.objs.size)) (typeOf (.ref (h.objs.size + 1))) (.ref C) := (Looks.ld hx).andThen .now
  have s1 := self.keeps k
  have i1 := hi.keeps k
  have b1 := (hb (.ref (h.objs.size + 1))).keeps k
  unfold isInstance
  refine .bindL (wpAny_bind (t1.at (s1.at ?_)))
  simp only [Bool.not_true, Bool.false_eq_true, if_false]
  refine .bind (.holding ?_)
  unfold callSpecial? specialOf
  refine .bindL (wpAny_bind (t1.at (i1.at ?_)))
  dsimp only
  refine .holding (.bindL (b1.at ?_))
  refine .bind (.call (hq.mono fun r s' z => ?_))
  obtain ⟨rfl, z⟩ := z
  exact .pure (.pure z)
end
section
variable {prog : Program} {w : World} {A : Around} {K : Frag} {C : Addr} {s : Shared} {h₀ : Heap} {L : Addr} {m : Str → Option Value} {news : List (Addr × Obj)} {Q : Value → Shared → Prop} {E : Value → Shared → Prop}
theorem wpC.make {rest : List Value} {fI : Addr} (F : Fr h₀ L s.heap m) (N : News h₀ L s.heap news) (X : K.In s.heap) (hm : makesIn K C = true)
    (hi : findIn K (.ref C) "__init__" = some (some (.ref fI))) (hf : typeIn K (.ref fI) = some (.type "function"))
    (h : ∀ x dx h', Fr h₀ L h' m → News h₀ L h' ((x, instObj C dx) :: (dx, emptyDict) :: news) → dx = s.heap.objs.size → @LT.lt Nat _ dx x → Keeps [] s.heap h' →
      codeC (model prog w) (A.under (.builtin "type.__call__" ⟨.ref C :: rest, []⟩)) (.call (.ref fI) ⟨.ref x :: rest, []⟩) (fun r s' => r = .ok (.ret .none) ∧ Q (.ref x) s') { s with heap := h' }) :
    wpC (model prog w) A (PySem.call (.ref C) rest) Q E s := by
  obtain ⟨hh, g, d, t, os⟩ := s
  refine .call (.make_core (makes_of X hm) (looks_findIn X hi) (fun self => bind_fn X self hf) rfl ((h _ hh.objs.size _ ((F.push _).push _) ?_ rfl (Nat.lt_succ_self _) (fun b o e _ => Heap.get?_push_of_some _ (Heap.get?_push_of_some _ e))).mono fun _ _ z => z))
  have := (N.push F emptyDict).push (F.push _) (instObj C hh.objs.size)
  rwa [Heap.size_push] at this
end
end
section
section
variable {M : Model} {A : Around} {E : Value → Shared → Prop} {s : Shared} {env : Env}
theorem wpC.AssignAttr {o attr pos' value pos} {Q : Flow → Shared → Prop}
    (h : wpC M A (eval value env) (fun v s₁ => wpAny M A (eval o env) (fun ov s₂ => wpAny M A (setAttr ov attr v) (fun _ => Q .next) E s₂) E s₁) E s)
    (hs : swapsWith value (some (.Attribute o attr pos')) pos.line env = Pure.pure false := by rfl) :
    wpC M A (exec (.Assign [.Attribute o attr pos'] value pos) env) Q E s := fun Γ p hΓ hC => by
  simp only [plainObj_exec_Assign_Attribute o attr pos' value pos hs, assign_Attribute, Sem.wp_bind', Sem.wp_holding, Sem.wp_cmd_standAt, Sem.wp_release, Sem.wp_pure']
  exact Sem.wp_mono M Γ _ (fun v p₁ s₁ h₁ => Sem.wp_mono M Γ _ (fun ov _ s₂ h₂ => h₂ Γ _ hΓ) (fun _ _ _ h' => h') _ _ (h₁ Γ p₁ hΓ)) (fun _ _ _ h' => h') _ _ (h Γ _ hΓ hC)
theorem wpC.AssignName {x pos' value pos} {Q : Flow → Shared → Prop}
    (h : wpC M A (eval value env) (fun v s₁ => wpAny M A (storeName env x v) (fun _ => Q .next) E s₁) E s)
    (hs : swapsWith value (some (.Name x pos')) pos.line env = Pure.pure false := by rfl) :
    wpC M A (exec (.Assign [.Name x pos'] value pos) env) Q E s := by
  rw [exec_Assign_Name _ x pos' value pos hs]
  exact .standAt (.bind (h.mono (fun v s₁ h₁ => .standAt (.bindL (wpAny_bindName (wpAny_mono h₁ (fun _ _ x => .pure x) fun _ _ x => x)))) fun _ _ x => x))
theorem wpC.AssignTuple {elts k tpos value pos} {Q : Flow → Shared → Prop}
    (h : wpC M A (eval value env) (fun v s₁ => wpAny M A (assign (.Tuple elts k tpos) env v) (fun _ => Q .next) E s₁) E s)
    (hs : swapsWithSole [.Tuple elts k tpos] value pos.line env = Pure.pure false := by rfl)
    (hw : swappedStores [.Tuple elts k tpos] value env = Pure.pure none := by rfl) :
    wpC M A (exec (.Assign [.Tuple elts k tpos] value pos) env) Q E s := by
  rw [exec_Assign]
  refine .standAt ?_
  rw [hs]
  refine .bindL (wpAny_pure ?_)
  rw [if_neg (by decide)]
  refine .bind (h.mono (fun v s₁ h₁ => ?_) fun _ _ x => x)
  rw [hw]
  refine .bindL (wpAny_pure ?_)
  show wpC M A (do assignAll v [assign (.Tuple elts k tpos) env]; Pure.pure .next) Q E s₁
  exact .bindL (wpAny_mono h₁ (fun _ _ x => .pure x) fun _ _ x => x)
theorem wpC.AssignTupleS {elts k tpos value pos} {names : List Str} {Q : Flow → Shared → Prop}
    (h : wpC M A (eval value env) (fun v s₁ => wpAny M A (unpackItems v names.length none) (fun items s₂ =>
      wpAny M A (assignInOrder (names.reverse.map fun n => bindName env n) items.reverse) (fun _ => Q .next) E s₂) E s₁) E s)
    (hs : swapsWithSole [.Tuple elts k tpos] value pos.line env = Pure.pure false := by rfl)
    (hw : swappedStores [.Tuple elts k tpos] value env = Pure.pure (some names) := by rfl) :
    wpC M A (exec (.Assign [.Tuple elts k tpos] value pos) env) Q E s := by
  rw [exec_Assign]
  refine .standAt ?_
  rw [hs]
  refine .bindL (wpAny_pure ?_)
  rw [if_neg (by decide)]
  refine .bind (h.mono (fun v s₁ h₁ => ?_) fun _ _ x => x)
  rw [hw]
  refine .bindL (wpAny_pure ?_)
  show wpC M A (do rule "assign.swapped-stores"; let items ← unpackItems v names.length none; assignInOrder (names.reverse.map fun n => bindName env n) items.reverse; Pure.pure .next) Q E s₁
  exact .bindL (wpAny_rule (.bindL (wpAny_mono h₁ (fun items s₂ h₂ => .bindL (wpAny_mono h₂ (fun _ _ x => .pure x) fun _ _ x => x)) fun _ _ x => x)))
theorem wpC.Tuple {elts k pos} {Q : Value → Shared → Prop}
    (h : wpC M A (spliced (backTo pos (starEach elts env))) (fun vs s₁ => wpAny M A (newTuple vs) Q E s₁) E s) : wpC M A (eval (.Tuple elts k pos) env) Q E s := by
  rw [arm_eval_Tuple]
  exact .standAt (.bind (h.mono (fun vs s₁ h₁ => .of h₁) fun _ _ x => x))
theorem wpC.Compare {l op r pos whole} {Q : Bool → Shared → Prop}
    (h : wpC M A (eval l env) (fun a s₁ => wpC M A (eval r env) (fun b s₂ => wpAny M A (compareOp op a b) (fun c s₃ => wpAny M A (truthy c) Q E s₃) E s₂) E s₁) E s)
    (hm : markedBehindIn op r (eval r env) = eval r env := by rfl) : wpC M A (isTrue (.Compare l [op] [r] pos) env whole) Q E s := by
  rw [isTrue_Compare1, hm]
  refine .bind (h.mono (fun a s₁ h₁ => .bind (.holding (h₁.mono (fun b s₂ h₂ => .standAt (.of ?_)) fun _ _ x => x))) fun _ _ x => x)
  exact wpAny_bind (fun Γ p hΓ => by rw [Sem.wp_operate]; exact wpAny_mono h₂ (fun c s₃ h₃ => wpAny_holding h₃) (fun _ _ x => x) Γ p hΓ)
theorem wpC.Not {x pos whole} {Q : Bool → Shared → Prop} (h : wpC M A (isTrue x env (eval x env)) (fun c s' => Q (!c) s') E s) : wpC M A (isTrue (.UnaryOp .Not x pos) env whole) Q E s := by
  show wpC M A (do return !(← isTrue x env (eval x env))) Q E s
  exact .bind (h.mono (fun _ _ x => .pure x) fun _ _ x => x)
theorem wpC.Truth {f args kws pos} {Q : Bool → Shared → Prop} (h : wpC M A (eval (.Call f args kws pos) env) (fun v s₁ => wpAny M A (truthy v) Q E s₁) E s) :
    wpC M A (isTrue (.Call f args kws pos) env (eval (.Call f args kws pos) env)) Q E s := by
  show wpC M A (do let v ← eval (.Call f args kws pos) env; PySem.standAt _; PySem.holding [v] (truthy v)) Q E s
  exact .bind (h.mono (fun v s₁ h₁ => .standAt (.holding (.of h₁))) fun _ _ x => x)
theorem wpC.Or {x rest pos whole} {Q : Bool → Shared → Prop}
    (h : wpC M A (isTrue x env (eval x env)) (fun c s₁ => if c = true then Q true s₁ else wpC M A (isTrue (.BoolOp .Or rest pos) env whole) Q E s₁) E s) : wpC M A (isTrue (.BoolOp .Or (x :: rest) pos) env whole) Q E s := by
  show wpC M A (allTrue .Or (x :: rest) env) Q E s
  rw [allTrue]
  refine .bind (h.mono (fun c s₁ h₁ => ?_) fun _ _ x => x)
  cases c with
  | true => exact .pure h₁
  | false => exact h₁
theorem wpC.For {target iter body pos} {Q : Flow → Shared → Prop}
    (h : wpAny M A (eval iter env) (fun x s₁ => wpAny M A (pyIter x) (fun it s₂ =>
      codeC M A (.forLoop target it body [] env) (fun r s' => match r with | .ok f => Q f s' | .error _ => False) s₂) E s₁) E s)
    (hs : ∀ x, foldedSetIterable iter env x = Pure.pure x := by intro _; rfl) :
    wpC M A (exec (.For target iter body [] pos) env) Q E s := by
  rw [exec_For]
  refine .standAt (.bindL (wpAny_mono h (fun x s₁ h₁ => .bindL (wpAny_of_eq (hs x) (.standAt (.bindL (wpAny_holding (wpAny_mono h₁ (fun it s₂ h₂ => .runOwn rfl ?_) fun _ _ h' => h')))))) fun _ _ h' => h'))
  exact h₂.mono fun r s' x => by cases r with
    | ok f => exact x
    | error e => exact x.elim
end
section
variable {prog : Program} {w : World} {A : Around} {E : Value → Shared → Prop} {s : Shared}
theorem codeC.forLoop {env : Env} {R : Result → Shared → Prop} {target it body} (I : Nat → Shared → Prop)
    (turn : ∀ n s, I n s → let P9 : Flow → Shared → Prop := fun f s₃ => match f with
          | .next | .cont => ∃ m, m < n ∧ I m s₃
          | .brk => R (.ok .next) s₃
          | .ret v => R (.ok (.ret v)) s₃; wpAny (model prog w) A (pyNext it) (fun r s₁ => match r with
      | none => R (.ok .next) s₁
      | some v => wpAny (model prog w) A (assign target env v) (fun _ s₂ => wpC (model prog w) A (execs body env) P9 (fun _ _ => False) s₂) (fun _ _ => False) s₁) (fun _ _ => False) s)
    (n : Nat) (h : I n s) (ht : ∀ v, letOwnedTupleGo target it v = Pure.pure () := by intro _; rfl) : codeC (model prog w) A (.forLoop target it body [] env) R s := by
  induction n using Nat.strongRecOn generalizing s with
  | ind n ih =>
    refine .tree ?_
    show wpC _ A ((forTurn target it body [] env).onRaise (fun x => do noteFrame x env; theTreesLotGoes x)) _ _ s
    refine .onRaise ?_
    simp only [forTurn]
    refine .standAt (.bindL (wpAny_onRaise (wpAny_mono (turn n s h) (fun r s₁ h₁ => ?_) fun _ _ x => x.elim)))
    cases r with
    | none => exact .pure ⟨rfl, rfl, .tree (show wpC _ A (do return Fin.done (← (execs [] env).onRaise (fun x => do noteFrame x env; theTreesLotGoes x))) _ _ s₁ from .bind (.onRaise (.execs_nil (.pure h₁))))⟩
    | some v =>
      refine .bindL (wpAny_of_eq (ht v) ?_)
      refine .bindL (wpAny_mono h₁ (fun _ s₂ h₂ => .bind (h₂.mono (fun f s₃ h₃ => ?_) fun _ _ x => x)) fun _ _ x => x)
      cases f with
      | next => obtain ⟨k, hk, hI⟩ := h₃; exact .pure ⟨rfl, rfl, ih k hk hI⟩
      | cont => obtain ⟨k, hk, hI⟩ := h₃; exact .pure ⟨rfl, rfl, ih k hk hI⟩
      | brk => exact .pure h₃
      | ret v => exact .pure h₃
end
end
section
/-- what a class's call makes: new objects behind all that stood -/
noncomputable def NewC (prog : Program) (w : World) (mean : ExcName → Option Value) (mg mb : Str → Option Value) (f : Addr) (d u : Nat) (vs : List Value) (Ret : Nat → Value → List (Addr × Obj) → Prop) : Prop :=
  ∀ (dp un : Nat) (gd : Option (List Code)) (cn : Str) (cs : Scope) (a : Addr) (ccd : Value) (cl : List (Str × Addr)) (outer : List Env) (A₀ : Around) (base h₀ : Heap) (L : Addr) (m : Str → Option Value) (s : Shared) (Q : Value → Shared → Prop),
    Below A₀ base outer h₀ → Fr h₀ L s.heap m → (Mine.hd.heap_39 w.params).In h₀ → Top VW LO mean mg mb h₀ → cs.kind = .function → dp + d < recursionLimit → un + u < cLine →
    (∀ v B h' tk', Ret s.heap.objs.size v B → Fr h₀ L h' m → News h₀ L h' B → Keeps [] s.heap h' → Q v { s with heap := h', toks := tk' }) →
    wpC (model prog w) (ktrTop dp un gd cn cs L a ccd cl outer) (call (.ref f) vs) Q (fun _ _ => False) s
theorem NewC.use {prog : Program} {w : World} {mean : ExcName → Option Value} {mg mb : Str → Option Value} {f : Addr} {d u : Nat} {vs : List Value} {Ret : Nat → Value → List (Addr × Obj) → Prop} (C : NewC prog w mean mg mb f d u vs Ret)
    {dp un : Nat} {gd : Option (List Code)} {cn : Str} {cs : Scope} {a : Addr} {ccd : Value} {cl : List (Str × Addr)} {outer : List Env} {A₀ : Around} {base h₀ : Heap} {L : Addr} {m : Str → Option Value} {s : Shared} {Q : Value → Shared → Prop}
    (k1 : Below A₀ base outer h₀) (k2 : Fr h₀ L s.heap m) (k3 : (Mine.hd.heap_39 w.params).In h₀) (k5 : Top VW LO mean mg mb h₀) (k6 : cs.kind = .function) (k7 : dp + d < recursionLimit) (k8 : un + u < cLine)
    (hret : ∀ v B h' tk', Ret s.heap.objs.size v B → Fr h₀ L h' m → News h₀ L h' B → Keeps [] s.heap h' → Q v { s with heap := h', toks := tk' }) :
    wpC (model prog w) (ktrTop dp un gd cn cs L a ccd cl outer) (call (.ref f) vs) Q (fun _ _ => False) s := C _ _ _ _ _ _ _ _ _ _ _ _ _ _ _ _ k1 k2 k3 k5 k6 k7 k8 hret
theorem wpC.callWith_T0 {M : Model} {A : Around} {E : Value → Shared → Prop} {s : Shared} {env : Env} {pos : Pos} {T : String} {first : List Value} {Q : Value → Shared → Prop}
    (h : wpC M A (PySem.call (.type T) (first ++ [])) Q E s) : wpC M A (callWith pos (.type T) first (backTo pos (starEach [] env)) []) Q E s :=
  wpC.callWith_of (P := fun _ => True) rfl (fun _ _ => ⟨.machine, .inr (.inl rfl), Looks.of_pure rfl⟩) (.of (evalArgs_nil3 ⟨trivial, h⟩))
theorem news_rot {h₀ h : Heap} {L : Addr} {p q r : Addr × Obj} (N : News h₀ L h [p, q, r]) : News h₀ L h [q, r, p] := fun x hx => N x (by simp only [List.mem_cons, List.not_mem_nil, or_false] at hx ⊢; rcases hx with a | a | a <;> simp only [a, true_or, or_true])
noncomputable def enc0 : Enc := ⟨65536, 0, 11, []⟩
inductive EncNewR (z : Nat) (v : Value) (B : List (Addr × Obj)) : Prop
  | mk : ∀ (c : EncAt) t1 t2 t3, v = .ref c.e → c.ok → c.d = z → B = encL c enc0 t1 t2 t3 → EncNewR z v B
set_option maxHeartbeats 8000000 in
theorem enc_new {prog : Program} {w : World} {mean : ExcName → Option Value} {mg mb : Str → Option Value} :
    NewC prog w mean mg mb 333 20 200 [] EncNewR := by
  intro dp un gd cn cs a ccd cl outer A₀ base h₀ L m s Q B F X T hk hd hu hret
  have N : News h₀ L s.heap [] := News.nil
  k_dflt (refine' wpC.make (K := Mine.hd.heap_39 w.params) (fI := 295) F N (X.keeps F.keep) ?k2 ?k3 ?k4 ?_; (case k2 => k_is); (case k3 => k_is); (case k4 => k_is))
  intro x dx h1 F1 N1 hdx hlt hkp
  clear N
  k_dflt (refine' codeC.code_def ?k1 ?k2 ?k3 ?k4 ?k5 ?kA ?kF ?kK ?k6 ?k7 ?k8 ?k9 ?kB ?_ ?c2 ?c3 ?c4 ?c5; k_extra "m_open")
  intro g' L' h' KG' FG' F' N' B' X' T' lN'
  try dsimp only
  first | (refine wpAny_folded ?_; intro M9 e9 A9; k_fold) | (refine wpC.folded ?_; intro M9 e9 A9 q9)
  k_extra "m_start"
  k_extra "m_start"
  k_extra "m_start"
  dsimp only
  refine .execs_cons (.AssignAttr (.CallName ?_))
  k_steps
  rename Fr g' L' _ _ => FF
  rename News g' L' _ _ => NN
  refine .callWith_T0 ?_
  dsimp only [List.append_nil]
  refine make_ba FF NN fun f h2 F2 N2 lt2 => ?_
  clear FF NN
  have l2 : @LT.lt Nat _ x f := lt2 _ (.head _)
  have l3 : @LT.lt Nat _ dx f := lt2 _ (.tail _ (.head _))
  clear lt2
  k_steps
  rename Fr g' L' _ _ => FF
  rename Heap => h3
  rename News g' L' _ _ => NN
  refine .execs_nil (leaveK_ FF NN fun kF kN => ⟨rfl, ?_⟩)
  have NE : ∃ (c : EncAt) (t1 t2 t3 : Tok), c.e = x ∧ c.d = dx ∧ c.f = f ∧ News h₀ L h3 (encL c enc0 t1 t2 t3) := ⟨⟨dx, x, f, _, _, _, _, _, _, _, _⟩, _, _, _, rfl, rfl, rfl, news_rot kN⟩
  obtain ⟨c, t1, t2, t3, rfl, rfl, rfl, NE⟩ := NE
  refine hret _ _ _ _ ⟨c, t1, t2, t3, rfl, ⟨hlt, l2⟩, hdx, rfl⟩ kF NE fun b o e hb => ?_
  exact FF.keep b o (KG' b o (hkp b o e hb) (by
    have h5 : @LT.lt Nat _ b s.heap.objs.size := Heap.lt_size e
    have h6 : @Eq Nat c.d s.heap.objs.size := hdx
    simp only [List.map_cons, List.map_nil, List.mem_cons, List.not_mem_nil, or_false]
    rintro (q | q)
    · have q' : @Eq Nat b c.e := q
      (first | lia | omega)
    · have q' : @Eq Nat b c.d := q
      (first | lia | omega)))
end
section
inductive BinNewR (z : Nat) (v : Value) (B : List (Addr × Obj)) : Prop
  | mk : ∀ (c : BinAt) vs ws n1 n2, v = .ref c.e → c.ok → c.d = z → IntsAre vs (List.replicate 49 0) → IntsAre ws (List.replicate 49 0) → B = binL c vs ws n1 n2 → BinNewR z v B
set_option maxHeartbeats 8000000 in
theorem bin_new {prog : Program} {w : World} {mean : ExcName → Option Value} {mg mb : Str → Option Value} {t : Tok} :
    NewC prog w mean mg mb 214 20 200 [.int 49 t] BinNewR := by
  intro dp un gd cn cs a ccd cl outer A₀ base h₀ L m s Q B F X T hk hd hu hret
  have N : News h₀ L s.heap [] := News.nil
  k_dflt (refine' wpC.make (K := Mine.hd.heap_39 w.params) (fI := 211) F N (X.keeps F.keep) ?k2 ?k3 ?k4 ?_; (case k2 => k_is); (case k3 => k_is); (case k4 => k_is))
  intro x dx h1 F1 N1 hdx hlt hkp
  clear N
  k_dflt (refine' codeC.code_def ?k1 ?k2 ?k3 ?k4 ?k5 ?kA ?kF ?kK ?k6 ?k7 ?k8 ?k9 ?kB ?_ ?c2 ?c3 ?c4 ?c5; k_extra "m_open")
  intro g' L' h' KG' FG' F' N' B' X' T' lN'
  try dsimp only
  first | (refine wpAny_folded ?_; intro M9 e9 A9; k_fold) | (refine wpC.folded ?_; intro M9 e9 A9 q9)
  k_extra "m_start"
  k_extra "m_start"
  rename Fr g' L' _ _ => FF
  rename News g' L' _ _ => NN
  rename Heap => h3
  refine .execs_nil (leaveK_ FF NN fun kF kN => ⟨rfl, ?_⟩)
  suffices NE : ∃ (c : BinAt) (vs ws : List Value) (n1 n2 : Nat) (p q : Addr × Obj), c.e = x ∧ c.d = dx ∧ c.ok ∧ IntsAre vs (List.replicate 49 0) ∧ IntsAre ws (List.replicate 49 0) ∧ News h₀ L h3 [(c.t, listOf ws.toArray n2), q, (c.s, listOf vs.toArray n1), p, (c.e, instObj 214 c.d), (c.d, binD c)] by
    obtain ⟨c, vs, ws, n1, n2, p, q, rfl, rfl, ho, hv, hw, NE⟩ := NE
    refine hret _ _ _ _ ⟨c, vs, ws, n1, n2, rfl, ho, hdx, hv, hw, rfl⟩ kF (fun y hy => NE y ?_) fun b o e hb => ?_
    · simp only [List.mem_cons, List.not_mem_nil, or_false] at hy ⊢
      rcases hy with a | a | a | a <;> simp only [a, true_or, or_true]
    · exact FF.keep b o (KG' b o (hkp b o e hb) (by
        have h5 : @LT.lt Nat _ b s.heap.objs.size := Heap.lt_size e
        have h6 : @Eq Nat c.d s.heap.objs.size := hdx
        simp only [List.map_cons, List.map_nil, List.mem_cons, List.not_mem_nil, or_false]
        rintro (q | q)
        · have q' : @Eq Nat b c.e := q
          (first | lia | omega)
        · have q' : @Eq Nat b c.d := q
          (first | lia | omega)))
  refine ⟨⟨dx, x, _, _, _, _, _, _⟩, _, _, _, _, _, _, rfl, rfl, ?_, ?_, ?_, kN⟩
  · rename_i y1 y2 y3 y4 y5 y6 y7 y8 y9 y10 y11 y12 y13 y14 y15 y16 y17 y18 y19 y20 y21 y22 y23 y24 y25
    exact ⟨hlt, y12.2.1, y25.2.1⟩
  · show IntsAre _ (List.replicate (Int.toNat 49) [(0 : Int)]).flatten
    assumption
  · show IntsAre _ (List.replicate (Int.toNat 49) [(0 : Int)]).flatten
    assumption
end
section
noncomputable def Enc.top (x : Enc) : Int := if (x.code + x.size - 1) / 65536 * 65536 < x.code then (x.code + x.size - 1) / 65536 * 65536 + 32768 else (x.code + x.size - 1) / 65536 * 65536
set_option maxHeartbeats 4000000 in
theorem cend_ctr {prog : Program} {w : World} {mean : ExcName → Option Value} {mg mb : Str → Option Value} {c : EncAt} {x : Enc} {t1 t2 t3 : Tok} (o : c.ok) :
    Ctr prog w mean mg mb 323 10 100 [.ref c.e] (encL c x t1 t2 t3) (EncR c { x with code := x.top }) := by
  intro dp un gd cn cs a ccd cl outer A₀ base h₀ L m s Q E B F X N T hk hd hu hret
  obtain ⟨o1, o2⟩ := o
  refine wpAny_call ?_
  k_dflt (refine' code_defR ?k1 ?k2 ?k3 ?k4 ?k5 ?kA ?kF ?kK ?k6 ?k7 ?k8 ?k9 ?kB ?_ ?c2 ?c3 ?c4 ?c5; k_extra "m_open")
  intro g' L' h' KG' FG' F' N' B' X' T' lN'
  try dsimp only
  first | (refine wpAny_folded ?_; intro M9 e9 A9; k_fold) | (refine wpC.folded ?_; intro M9 e9 A9 q9)
  have e1 : Int.fdiv (x.code + x.size - 1) (2 * 32768) = (x.code + x.size - 1) / 65536 := Int.fdiv_eq_ediv_of_nonneg _ (by decide)
  k_steps
  all_goals (rename News h₀ L _ _ => kN; rename Fr h₀ L _ _ => kF; rename Fr g' L' _ _ => FF)
  · rename _ < _ => hb
    have e : x.top = Int.fdiv (x.code + x.size - 1) (2 * 32768) * (2 * 32768) + 32768 := by unfold Enc.top; rw [e1] at hb ⊢; exact if_pos hb
    rw [e] at hret
    exact hret _ _ _ _ ⟨rfl, _, _, _, rfl⟩ kF kN (KG'.of_fr FF)
  · rename ¬ _ < _ => hb
    have e : x.top = Int.fdiv (x.code + x.size - 1) (2 * 32768) * (2 * 32768) := by unfold Enc.top; rw [e1] at hb ⊢; exact if_neg hb
    rw [e] at hret
    exact hret _ _ _ _ ⟨rfl, _, _, _, rfl⟩ kF kN (KG'.of_fr FF)
end
section
noncomputable def Enc.fin (x : Enc) : Enc := Enc.out { (Enc.out { x with code := x.top * 2 ^ x.left.toNat }) with code := (Enc.out { x with code := x.top * 2 ^ x.left.toNat }).code * 256 }
/-- without the zeros at its end -/
noncomputable def strip : Nat → List Int → List Int
  | 0, l => l
  | n + 1, l => if l ≠ [] ∧ l.getD (l.length - 1) 0 = 0 then strip n l.dropLast else l
noncomputable def Enc.last (x : Enc) : List Int := strip x.fin.found.length x.fin.found
theorem Enc.out_size (x : Enc) (z : Int) : Enc.out { x with size := z } = { (Enc.out x) with size := z } := by
  unfold Enc.out
  dsimp only
  split <;> rfl
theorem Enc.top_in {x : Enc} (s0 : 32768 ≤ x.size) (_c0 : 0 ≤ x.code) : x.code ≤ x.top ∧ x.top < x.code + x.size ∧ x.top % 32768 = 0 := by
  unfold Enc.top
  split <;> (first | lia | omega)
structure FinOk (x : Enc) : Prop where
  a0 : 0 ≤ x.top * 2 ^ x.left.toNat
  a1 : x.top * 2 ^ x.left.toNat < 268435456
  a2 : x.top * 2 ^ x.left.toNat / 524288 > 255 → Room x.found
  b0 : 0 ≤ (Enc.out { x with code := x.top * 2 ^ x.left.toNat }).code * 256
  b1 : (Enc.out { x with code := x.top * 2 ^ x.left.toNat }).code * 256 < 134217728
  b2 : Octets (Enc.out { x with code := x.top * 2 ^ x.left.toNat }).found
  b3 : (Enc.out { x with code := x.top * 2 ^ x.left.toNat }).found.length = x.found.length + 1
  c0 : Octets x.fin.found
  c1 : x.fin.found.length = x.found.length + 2
  c2 : val x.fin.found * 2048 = (val x.found * 2 ^ (27 - x.left.toNat) + x.top) * 2 ^ x.left.toNat
theorem fin_ok {x : Enc} (h : EncOk x) (hs : 32768 ≤ x.size) : FinOk x := by
  have hl0 := h.left0
  have hl1 := h.left1
  have hn := h.near
  have hw := h.low
  obtain ⟨t0, t1, t2⟩ := Enc.top_in hs h.code0
  have hc := h.code0
  generalize hL : x.left.toNat = l at hn hw
  have hl : l ≤ 11 := by (first | lia | omega)
  have e27 : (2 : Int) ^ (27 - l) * 2 ^ l = 134217728 := by rw [← Int.pow_add, show 27 - l + l = 27 by (first | lia | omega)]; decide
  have e28 : (2 : Int) ^ (28 - l) * 2 ^ l = 268435456 := by rw [← Int.pow_add, show 28 - l + l = 28 by (first | lia | omega)]; decide
  have hP : (1 : Int) ≤ 2 ^ l := Int.le_of_lt_add_one (by have := Int.pow_pos (n := 2) (m := l) (by decide); (first | lia | omega))
  generalize hT : x.top = T at t0 t1 t2
  generalize hPP : (2 : Int) ^ l = P at e27 e28 hP
  generalize hDD : (2 : Int) ^ (27 - l) = D at e27 hw
  generalize (2 : Int) ^ (28 - l) = D2 at e28 hn
  have hp0 : (0 : Int) ≤ P := by (first | lia | omega)
  have m1 : (T + 1) * P ≤ D2 * P := Int.mul_le_mul_of_nonneg_right (by (first | lia | omega)) hp0
  have m2 : (val x.found * D + (T + 1)) * P ≤ (256 ^ x.found.length * D) * P := Int.mul_le_mul_of_nonneg_right (by (first | lia | omega)) hp0
  have m3 : 0 ≤ T * P := Int.mul_nonneg (by (first | lia | omega)) hp0
  rw [Int.add_mul, Int.one_mul, e28] at m1
  rw [Int.add_mul, Int.add_mul, Int.one_mul, Int.mul_assoc, Int.mul_assoc, e27] at m2
  obtain ⟨q, hq⟩ : ∃ q, T = 32768 * q := ⟨T / 32768, by (first | lia | omega)⟩
  have m4 : T * P = 32768 * (q * P) := by rw [hq, Int.mul_assoc]
  have o1 := Enc.out_ok (x := { x with size := 1, code := T * P }) m3 (by dsimp only; (first | lia | omega)) (Int.le_refl 1) h.octets (by dsimp only; generalize (256 : Int) ^ x.found.length = Z at m2 ⊢; simp only [Int.reducePow]; (first | lia | omega))
  have s1 := Enc.out_size { x with code := T * P } 1
  dsimp only at s1 o1
  rw [s1] at o1
  dsimp only at o1
  obtain ⟨r1, r2, r3, r4, r5, r6, _⟩ := o1
  have r7 : ¬ ((Enc.out { x with code := T * P }).code * 256) / 524288 > 255 := by (first | lia | omega)
  have o2 := Enc.out_ok (x := { (Enc.out { x with code := T * P }) with size := 1, code := (Enc.out { x with code := T * P }).code * 256 }) (by dsimp only; (first | lia | omega)) (by dsimp only; (first | lia | omega)) (Int.le_refl 1) r2 (by
    dsimp only
    rw [r4]
    have e3 : (256 : Int) ^ (x.found.length + 1) = 256 ^ x.found.length * 256 := Int.pow_succ ..
    rw [e3]
    revert m2
    generalize (256 : Int) ^ x.found.length = Z
    intro m2
    simp only [Int.reducePow] at r3 ⊢
    (first | lia | omega))
  have s2 := Enc.out_size { (Enc.out { x with code := T * P }) with code := (Enc.out { x with code := T * P }).code * 256 } 1
  dsimp only at s2 o2
  rw [s2] at o2
  dsimp only at o2
  obtain ⟨_, v2, v3, v4, v5, v6, _⟩ := o2
  have ef : x.fin = Enc.out { (Enc.out { x with code := T * P }) with code := (Enc.out { x with code := T * P }).code * 256 } := by unfold Enc.fin; rw [hL, hT, hPP]
  refine ⟨?_, ?_, ?_, ?_, ?_, ?_, ?_, ?_, ?_, ?_⟩
  · rw [hL, hT, hPP]; exact m3
  · rw [hL, hT, hPP]; (first | lia | omega)
  · rw [hL, hT, hPP]; exact r1
  · rw [hL, hT, hPP]; (first | lia | omega)
  · rw [hL, hT, hPP]; (first | lia | omega)
  · rw [hL, hT, hPP]; exact r2
  · rw [hL, hT, hPP]; exact r4
  · rw [ef]; exact v2
  · rw [ef, v4, r4]
  · rw [hL, hT, hPP, hDD, Int.add_mul, Int.mul_assoc, e27]
    have v3' : val x.fin.found * 2 ^ 19 + x.fin.code = val (Enc.out { x with code := T * P }).found * 2 ^ 27 + (Enc.out { x with code := T * P }).code * 256 := by rw [ef]; exact v3
    have v5' : 0 ≤ x.fin.code := by rw [ef]; exact v5
    have v6' : x.fin.code < 524288 := by rw [ef]; exact v6
    clear v3 v5 v6 v4 v2 ef s1 s2 r2 r1 m1 m2
    generalize val x.fin.found = p at *
    generalize x.fin.code = pc at *
    generalize val (Enc.out { x with code := T * P }).found = n at *
    generalize (Enc.out { x with code := T * P }).code = nc at *
    (first | lia | omega)
end
section
inductive FinR (c : EncAt) (x : Enc) (l : List Int) (v : Value) (B : List (Addr × Obj)) : Prop
  | mk : ∀ t t1 t2 t3, v = .bytes (byteArr l) t → B = encL c { x with found := l } t1 t2 t3 → FinR c x l v B
theorem ba_ne {prog : Program} {w : World} {A : Around} {E : Value → Shared → Prop} {s : Shared} {h₀ : Heap} {L f : Addr} {l : List Int} {news : List (Addr × Obj)} {u : Tok} {Q : Value → Shared → Prop}
    (N : News h₀ L s.heap news) (hm : (f, BA.obj l) ∈ news) (hu : A.units < cLine) (hq : Q (.bool (decide (l ≠ []))) s) : wpAny (model prog w) A (compareOp .NotEq (.ref f) (.bytes #[] u)) Q E s := BA.ne_empty (N _ hm).1 hu hq
theorem reg_Finish_0 : True := by
  (k_with "compareOp NotEq ref bytes" => ((k_here; k_dflt (refine' ba_ne ?k1 ?k2 ?k3 ?_; (case k1 => k_asm); (case k2 => k_mem); (case k3 => exact Nat.lt_of_le_of_lt (Nat.add_le_add_left (Nat.le_of_ble_eq_true rfl) _) (by assumption)); k_whole))))
  exact trivial
inductive Inv_Finish_0 (s : Shared) (g' : Heap) (L' : Addr) (c : EncAt) (x : Enc) (mm : Str → Option Value) (n : Nat) (s₁ : Shared) : Prop
  | mk : ∀ l h tk u1 u2 u3, (s₁ = { s with heap := h, toks := tk }) → (Fr g' L' h mm) → (News g' L' h (encL c { x.fin with found := l } u1 u2 u3)) → (Octets l) → (l.length = n) → (n ≤ x.found.length + 2) → (strip n l = x.last) → Inv_Finish_0 s g' L' c x mm n s₁
set_option maxHeartbeats 8000000 in
theorem finish_ctr {prog : Program} {w : World} {mean : ExcName → Option Value} {mg mb : Str → Option Value} {c : EncAt} {x : Enc} {t1 t2 t3 : Tok} (o : c.ok) (h : EncOk x) (hs : 32768 ≤ x.size) (hl : x.found.length < 80000) :
    CtrC prog w mean mg mb 330 40 500 [.ref c.e] (encL c x t1 t2 t3) (FinR c x.fin x.last) := by
  intro dp un gd cn cs a ccd cl outer A₀ base h₀ L m s Q B F X N T hk hd hu hret
  have hf := fin_ok h hs
  have l0 := h.left0
  have l1 := h.left1
  have oo := o
  obtain ⟨o1, o2⟩ := oo
  refine .call ?_
  k_dflt (refine' codeC.code_def ?k1 ?k2 ?k3 ?k4 ?k5 ?kA ?kF ?kK ?k6 ?k7 ?k8 ?k9 ?kB ?_ ?c2 ?c3 ?c4 ?c5; k_extra "m_open")
  intro g' L' h' KG' FG' F' N' B' X' T' lN'
  try dsimp only
  first | (refine wpAny_folded ?_; intro M9 e9 A9; k_fold) | (refine wpC.folded ?_; intro M9 e9 A9 q9)
  refine .execs_cons (.Expr (.MethodCall ?_))
  k_steps
  rename Fr g' L' _ _ => FF
  rename News g' L' _ _ => NN
  k_dflt (refine' .callWith_K0 (K := Mine.hd.heap_39 w.params) ?k1 ?k2 ?_; (case k1 => k_in); (case k2 => k_is))
  have hC := cend_ctr (prog := prog) (w := w) (mean := mean) (mg := mg) (mb := mb) (c := c) (x := x) (t1 := t1) (t2 := t2) (t3 := t3) o
  refine .of ?_
  k_dflt (refine' Ctr.use hC ?k1 ?k2 ?k3 ?k4 ?k5 ?k6 ?k7 ?k8 ?_; (case k1 => k_asm); (case k2 => exact FF); (case k3 => k_asm); (case k4 => exact NN); (case k5 => k_asm); (case k6 => exact rfl); (case k7 => exact bnd2 1 10 hd rfl); (case k8 => exact bnd2 3 100 hu rfl))
  clear hC
  rintro _ _ h2 tk2 ⟨rfl, w1, w2, w3, rfl⟩ F2 N2 K2
  clear NN FF
  have tb := Enc.top_in hs h.code0
  have nb := h.near
  have s1 := h.size1
  have cb := h.code0
  have t9 : 0 ≤ x.top := by (first | lia | omega)
  have t8 : x.top < 268435456 := by
    have p1 : (0 : Int) < 2 ^ x.left.toNat := Int.pow_pos (by decide)
    have p2 := Int.mul_le_mul_of_nonneg_left (show (1 : Int) ≤ 2 ^ x.left.toNat by (first | lia | omega)) t9
    have p3 := hf.a1
    (first | lia | omega)
  dsimp only [encL, encD] at N2
  k_extra "m_start"
  refine .execs_cons (.Expr (.MethodCall ?_))
  k_steps
  rename Fr g' L' _ _ => FF
  rename News g' L' _ _ => NN
  k_dflt (refine' .callWith_K0 (K := Mine.hd.heap_39 w.params) ?k1 ?k2 ?_; (case k1 => k_in); (case k2 => k_is))
  obtain ⟨v1, v2, v3, NN⟩ : ∃ v1 v2 v3, News g' L' _ (encL c { x with code := x.top * 2 ^ x.left.toNat } v1 v2 v3) := ⟨_, _, _, NN⟩
  have hC := out_ctr (prog := prog) (w := w) (mean := mean) (mg := mg) (mb := mb) (c := c) (x := { x with code := x.top * 2 ^ x.left.toNat }) (t1 := v1) (t2 := v2) (t3 := v3) o hf.a0 hf.a1 h.octets hf.a2 (by show x.found.length < 100000; (first | lia | omega))
  k_dflt (refine' CtrC.use hC ?k1 ?k2 ?k3 ?k4 ?k5 ?k6 ?k7 ?k8 ?_; (case k1 => k_asm); (case k2 => exact FF); (case k3 => k_asm); (case k4 => exact NN); (case k5 => k_asm); (case k6 => exact rfl); (case k7 => exact bnd2 1 10 hd rfl); (case k8 => exact bnd2 3 100 hu rfl))
  clear hC
  rintro _ _ h3 tk3 ⟨rfl, w1, w2, w3, rfl⟩ F3 N3 K3
  clear NN FF
  have b8 : 0 ≤ (Enc.out { x with code := x.top * 2 ^ x.left.toNat }).code := by have := hf.b0; (first | lia | omega)
  have b9 : (Enc.out { x with code := x.top * 2 ^ x.left.toNat }).code < 524288 := by have := hf.b1; (first | lia | omega)
  dsimp only [encL, encD] at N3
  k_extra "m_start"
  refine .execs_cons (.Expr (.MethodCall ?_))
  k_steps
  rename Fr g' L' _ _ => FF
  rename News g' L' _ _ => NN
  k_dflt (refine' .callWith_K0 (K := Mine.hd.heap_39 w.params) ?k1 ?k2 ?_; (case k1 => k_in); (case k2 => k_is))
  obtain ⟨v1, v2, v3, NN⟩ : ∃ v1 v2 v3, News g' L' _ (encL c { (Enc.out { x with code := x.top * 2 ^ x.left.toNat }) with code := (Enc.out { x with code := x.top * 2 ^ x.left.toNat }).code * 256 } v1 v2 v3) := ⟨_, _, _, NN⟩
  have hC := out_ctr (prog := prog) (w := w) (mean := mean) (mg := mg) (mb := mb) (c := c) (x := { (Enc.out { x with code := x.top * 2 ^ x.left.toNat }) with code := (Enc.out { x with code := x.top * 2 ^ x.left.toNat }).code * 256 }) (t1 := v1) (t2 := v2) (t3 := v3) o hf.b0 (by have := hf.b1; dsimp only at this ⊢; (first | lia | omega)) hf.b2 (by have := hf.b1; intro h9; dsimp only at this h9; (first | lia | omega)) (by have := hf.b3; dsimp only at this ⊢; (first | lia | omega))
  k_dflt (refine' CtrC.use hC ?k1 ?k2 ?k3 ?k4 ?k5 ?k6 ?k7 ?k8 ?_; (case k1 => k_asm); (case k2 => exact FF); (case k3 => k_asm); (case k4 => exact NN); (case k5 => k_asm); (case k6 => exact rfl); (case k7 => exact bnd2 1 10 hd rfl); (case k8 => exact bnd2 3 100 hu rfl))
  clear hC
  rintro _ _ h4 tk4 ⟨rfl, w1, w2, w3, rfl⟩ F4 N4 K4
  clear NN FF
  dsimp only
  obtain ⟨v1, v2, v3, NN⟩ : ∃ v1 v2 v3, News g' L' _ (encL c x.fin v1 v2 v3) := ⟨_, _, _, N4⟩
  have hz := hf.c1
  refine .execs_cons (wpC.While (n₀ := x.fin.found.length) (Inv_Finish_0 s g' L' c x _)
    ⟨x.fin.found, h4, _, v1, v2, v3, rfl, F4, NN, hf.c0, rfl, by (first | lia | omega), rfl⟩ ?_)
  clear F4 NN N4
  rintro n s₁ ⟨l, h5, tk5, u1, u2, u3, rfl, FF, NN, hO, rfl, hn, hst⟩ P9
  dsimp only [encL, encD] at NN
  k_steps
  · have hl0 : 0 < l.length := List.length_pos_iff.mpr ‹l ≠ []›
    k_steps
    · rename l.getD _ _ = 0 => hz0
      refine .execs_cons (.Expr (.MethodCall ?_))
      k_steps
      rename Fr g' L' _ _ => F6
      rename News g' L' _ _ => N6
      refine .callWith_B0 ?_
      dsimp only [List.append_nil]
      refine BA.pop F6 N6 (by k_upd) hl0 (by (first | lia | omega)) hO fun h7 i t k F7 N7 => ?_
      dsimp only
      have hst2 : strip (l.length - 1) l.dropLast = x.last := by
        obtain ⟨n, hn'⟩ : ∃ n, l.length = n + 1 := ⟨l.length - 1, by (first | lia | omega)⟩
        rw [hn', strip, if_pos ⟨‹l ≠ []›, by rw [hn'] at hz0; rw [hn']; exact hz0⟩] at hst
        rw [hn', Nat.add_sub_cancel]
        exact hst
      exact .execs_nil ⟨l.length - 1, by (first | lia | omega), l.dropLast, h7, _, _, _, _, rfl, F7, N7, fun y hy => hO y (List.dropLast_subset _ hy), List.length_dropLast, by (first | lia | omega), hst2⟩
    · rename l.getD _ _ ≠ 0 => hz0
      have hst : l = x.last := by
        obtain ⟨n, hn'⟩ : ∃ n, l.length = n + 1 := ⟨l.length - 1, by (first | lia | omega)⟩
        rw [← hst, hn', strip, if_neg (fun q => hz0 q.2)]
      dsimp only
      refine .consL ?_
      k_steps
      rename News g' L' _ _ => N8
      refine BA.to_bytes (N8 _ (show (c.f, BA.obj l) ∈ _ by k_mem)).1 (by (first | lia | omega)) fun t k => ?_
      k_steps
      rename News h₀ L _ _ => kN
      rename Fr h₀ L _ _ => kF
      rename Fr g' L' _ _ => F8
      rw [← hst] at hret
      exact hret _ _ _ _ ⟨_, _, _, _, rfl, rfl⟩ kF kN (KG'.of_fr F8)
  · have he : l = [] := Classical.byContradiction ‹¬ l ≠ []›
    have hst : l = x.last := by rw [← hst, he]; rfl
    dsimp only
    refine .consL ?_
    k_steps
    rename News g' L' _ _ => N8
    refine BA.to_bytes (N8 _ (show (c.f, BA.obj l) ∈ _ by k_mem)).1 (by (first | lia | omega)) fun t k => ?_
    k_steps
    rename News h₀ L _ _ => kN
    rename Fr h₀ L _ _ => kF
    rename Fr g' L' _ _ => F8
    rw [← hst] at hret
    exact hret _ _ _ _ ⟨_, _, _, _, rfl, rfl⟩ kF kN (KG'.of_fr F8)
end
theorem off_Finish : True := by
  k_with_none
  (k_with "call builtin:len" => ((k_here; (with_reducible show wpAny _ _ (call (Value.builtin "len") [Value.ref _]) _ _ _); k_dflt (refine' ba_len ?k1 ?k2 ?k3 ?_; (case k1 => k_asm); (case k2 => k_mem); (case k3 => ksw_less); k_whole))))
  (k_with "subscriptTail" => ((k_here; (with_reducible show wpAny _ _ (subscriptTail _ _ (Value.ref _) (Value.int _ _)) _ _ _); k_dflt (refine' ba_item ?k1 ?k2 ?k3 ?k4 ?k5 ?k6 ?_ ?k7; (case k1 => k_asm); (case k2 => k_mem); (case k3 => with_reducible assumption); (case k4 => ksw_less); (case k5 => ksw_less); (case k6 => ksw_less); (case k7 => with_unfolding_all rfl); k_whole))))
  (k_with "subscriptTail" => ((k_here; (with_reducible show wpAny _ _ (subscriptTail _ _ (Value.ref _) (Value.int (-1) _)) _ _ _); k_dflt (refine' ba_last ?k1 ?k2 ?k3 ?k5 ?k6 ?_ ?k7; (case k1 => k_asm); (case k2 => k_mem); (case k3 => with_reducible assumption); (case k5 => ksw_less); (case k6 => ksw_less); (case k7 => with_unfolding_all rfl); k_whole))))
  (k_with "getItem ref int" => ((k_here; (with_reducible show wpAny _ _ (getItem (Value.ref _) (Value.int _ _)) _ _ _); k_dflt (refine' ba_get ?k1 ?k2 ?k3 ?k4 ?k5 ?k6 ?_; (case k1 => k_asm); (case k2 => k_mem); (case k3 => with_reducible assumption); (case k4 => ksw_less); (case k5 => ksw_less); (case k6 => ksw_less); k_whole))))
  (k_with "setItem ref int" => ((k_here; (with_reducible show wpAny _ _ (setItem (Value.ref _) (Value.int _ _) (Value.int _ _)) _ _ _); k_dflt (refine' BA.setItem ?k1 ?k2 ?k3 ?k4 ?k5 ?k6 ?k7 ?k8 ?_; (case k1 => k_asm); (case k2 => k_asm); (case k3 => k_upd); (case k4 => ksw_less); (case k5 => ksw_less); (case k6 => ksw_less); (case k7 => ksw_less); (case k8 => ksw_less); k_whole); intro h' F' N'; (try k_sweep))))
  (k_with "m_open" => ((
    (case kA => exact rfl); (case kF => exact rfl); (case kK => assumption); (case k1 => k_asm); (case k2 => k_asm); (case k3 => k_asm); (case k4 => k_asm); (case k5 => k_asm)
    (case k6 => k_is); (case k7 => k_is); (case k8 => first | exact Nat.lt_of_le_of_lt (Nat.le_add_right _ _) (by assumption) | (refine Nat.lt_of_le_of_lt (Nat.add_le_add_left ?_ _) (by assumption); exact Nat.le_of_ble_eq_true rfl)); (case k9 => first | exact BindsTo.of_eq rfl | exact binds_K (by k_in) rfl (by k_is) rfl rfl rfl); (case c5 => decide); (case kB => exact locs rfl); (case c2 => exact rfl); (case c3 => exact rfl); (case c4 => exact rfl); k_whole)))
  (k_with "m_start" => (((try dsimp only); refine wpC.consL ?_; k_steps; all_goals (try k_fold))))
  (k_with "exec While Compare cons nil" => ((k_here; refine Stop.out ?_)))
  (k_with "exec While BoolOp cons nil" => ((k_here; refine Stop.out ?_)))
  (k_with "getMethod ref" => ((k_here; k_dflt (first
    | (refine' ba_method ?k1 ?k2 BA.slot_append BA.type_append ?_; (case k1 => k_asm); (case k2 => k_mem); k_whole)
    | (refine' ba_method ?k1 ?k2 BA.slot_pop BA.type_pop ?_; (case k1 => k_asm); (case k2 => k_mem); k_whole)))))
  (k_with "subscriptTail" => ((k_here; (with_reducible show wpAny _ _ (subscriptTail _ _ (Value.ref 196) (Value.int _ _)) _ _ _); k_dflt (refine' st_row ?k1 ?k2 ?k3 ?k4 ?_ ?k7; (case k1 => k_asm); (case k2 => k_asm); (case k3 => ksw_less); (case k4 => ksw_less); (case k7 => with_unfolding_all rfl); k_whole))))
  (k_with "subscriptTail" => ((k_here; (with_reducible show wpAny _ _ (subscriptTail _ _ (Value.ref (82 + Int.toNat _)) (Value.int _ _)) _ _ _); k_dflt (first
    | (refine' st_item (j := 0) ?k1 ?k2 ?k3 ?k4 ?k5 ?k6 ?k8 ?_ ?k7; (case k5 => exact rfl); (case k8 => exact ⟨_, rfl⟩); (case k1 => k_asm); (case k2 => k_asm); (case k3 => ksw_less); (case k4 => ksw_less); (case k6 => decide); (case k7 => with_unfolding_all rfl); k_whole)
    | (refine' st_item (j := 1) ?k1 ?k2 ?k3 ?k4 ?k5 ?k6 ?k8 ?_ ?k7; (case k5 => exact rfl); (case k8 => exact ⟨_, rfl⟩); (case k1 => k_asm); (case k2 => k_asm); (case k3 => ksw_less); (case k4 => ksw_less); (case k6 => decide); (case k7 => with_unfolding_all rfl); k_whole)
    | (refine' st_item (j := 2) ?k1 ?k2 ?k3 ?k4 ?k5 ?k6 ?k8 ?_ ?k7; (case k5 => exact rfl); (case k8 => exact ⟨_, rfl⟩); (case k1 => k_asm); (case k2 => k_asm); (case k3 => ksw_less); (case k4 => ksw_less); (case k6 => decide); (case k7 => with_unfolding_all rfl); k_whole)
    | (refine' st_item (j := 3) ?k1 ?k2 ?k3 ?k4 ?k5 ?k6 ?k8 ?_ ?k7; (case k5 => exact rfl); (case k8 => exact ⟨_, rfl⟩); (case k1 => k_asm); (case k2 => k_asm); (case k3 => ksw_less); (case k4 => ksw_less); (case k6 => decide); (case k7 => with_unfolding_all rfl); k_whole)); intro _)))
  (k_with "call ref" => ((k_here; ((first | (with_reducible show wpAny _ _ (call (Value.ref 225) _ _) _ _ _) | (with_reducible show wpAny _ _ (call (Value.ref 232) _ _) _ _ _)); refine Stop.out ?_))))
  exact trivial
section
structure Dec where
  octs : List Int
  at_ : Int
  size : Int
  code : Int
  left : Int
structure DecAt where
  d : Addr
  e : Addr
  h1 : Int
  h2 : Int
  h3 : Int
  h4 : Int
  h5 : Int
  k1 : Tok
  k2 : Tok
  k3 : Tok
  k4 : Tok
  k5 : Tok
  t0 : Tok
noncomputable abbrev decD (c : DecAt) (y : Dec) (t1 t2 t3 t4 : Tok) : Obj := dictOf [⟨c.h1, .str (Str.ofString "octets") c.k1, .bytes (byteArr y.octs) c.t0⟩, ⟨c.h2, .str (Str.ofString "at") c.k2, .int y.at_ t1⟩, ⟨c.h3, .str (Str.ofString "size") c.k3, .int y.size t2⟩, ⟨c.h4, .str (Str.ofString "code") c.k4, .int y.code t3⟩, ⟨c.h5, .str (Str.ofString "left") c.k5, .int y.left t4⟩] 5
noncomputable abbrev decL (c : DecAt) (y : Dec) (t1 t2 t3 t4 : Tok) : List (Addr × Obj) := [(c.e, instObj 277 c.d), (c.d, decD c y t1 t2 t3 t4)]
noncomputable def DecAt.ok (c : DecAt) : Prop := @LT.lt Nat _ c.d c.e
noncomputable def Dec.inn (y : Dec) : Dec := if y.at_ < y.octs.length then { y with code := y.code + y.octs.getD y.at_.toNat 0 * 256, at_ := y.at_ + 1 } else y
noncomputable def Dec.dbl (y : Dec) : Dec := if y.left = 0 then { y.inn with size := y.inn.size * 2, code := y.inn.code * 2, left := 7 } else { y with size := y.size * 2, code := y.code * 2, left := y.left - 1 }
noncomputable def Dec.widenN : Nat → Dec → Dec
  | 0, x => x
  | n + 1, x => if x.size < 32768 then Dec.widenN n x.dbl else x
noncomputable def Dec.widen (x : Dec) : Dec := Dec.widenN 16 x
theorem dwiden_stop {n : Nat} {y : Dec} (h : ¬ y.size < 32768) : Dec.widenN n y = y := by
  cases n with
  | zero => rfl
  | succ n => unfold Dec.widenN; rw [if_neg h]
theorem dwiden_go {n : Nat} {y : Dec} (h : y.size < 32768) : Dec.widenN (n + 1) y = Dec.widenN n y.dbl := by
  rw [Dec.widenN, if_pos h]
inductive DecR (c : DecAt) (x : Dec) (v : Value) (B : List (Addr × Obj)) : Prop
  | mk : v = .none → ∀ t1 t2 t3 t4, B = decL c x t1 t2 t3 t4 → DecR c x v B
set_option maxHeartbeats 4000000 in
theorem din_ctr {prog : Program} {w : World} {mean : ExcName → Option Value} {mg mb : Str → Option Value} {c : DecAt} {y : Dec} {t1 t2 t3 t4 : Tok}
    (o : c.ok) (ho : Octets y.octs) (hl : y.octs.length < 100000) (ha : 0 ≤ y.at_) :
    Ctr prog w mean mg mb 253 10 100 [.ref c.e] (decL c y t1 t2 t3 t4) (DecR c y.inn) := by
  intro dp un gd cn cs a ccd cl outer A₀ base h₀ L m s Q E B F X N T hk hd hu hret
  have o1 : @LT.lt Nat _ c.d c.e := o
  have hlen := byteArr_size y.octs
  refine wpAny_call ?_
  k_dflt (refine' code_defR ?k1 ?k2 ?k3 ?k4 ?k5 ?kA ?kF ?kK ?k6 ?k7 ?k8 ?k9 ?kB ?_ ?c2 ?c3 ?c4 ?c5; k_extra "m_open")
  intro g' L' h' KG' FG' F' N' B' X' T' lN'
  try dsimp only
  first | (refine wpAny_folded ?_; intro M9 e9 A9; k_fold) | (refine wpC.folded ?_; intro M9 e9 A9 q9)
  k_steps
  all_goals (rename News h₀ L _ _ => kN; rename Fr h₀ L _ _ => kF; rename Fr g' L' _ _ => FF)
  · rename y.at_ < _ => hb
    rw [hlen] at hb
    have e : y.inn = { y with code := y.code + y.octs.getD y.at_.toNat 0 * 2 ^ Int.toNat 8, at_ := y.at_ + 1 } := by unfold Dec.inn; rw [if_pos hb]; rfl
    rw [e] at hret
    exact hret _ _ _ _ ⟨rfl, _, _, _, _, rfl⟩ kF kN (KG'.of_fr FF)
  · rename ¬ y.at_ < _ => hb
    rw [hlen] at hb
    have e : y.inn = y := by unfold Dec.inn; rw [if_neg hb]
    rw [e] at hret
    exact hret _ _ _ _ ⟨rfl, _, _, _, _, rfl⟩ kF kN (KG'.of_fr FF)
end
section
theorem Dec.inn_same (y : Dec) : y.inn.octs = y.octs ∧ y.inn.size = y.size ∧ y.inn.left = y.left ∧ (0 ≤ y.at_ → 0 ≤ y.inn.at_) := by
  unfold Dec.inn
  split
  · exact ⟨rfl, rfl, rfl, fun h => by dsimp only; (first | lia | omega)⟩
  · exact ⟨rfl, rfl, rfl, fun h => h⟩
theorem Dec.dbl_same (y : Dec) : y.dbl.octs = y.octs ∧ y.dbl.size = y.size * 2 ∧ (0 ≤ y.at_ → 0 ≤ y.dbl.at_) := by
  have h := y.inn_same
  unfold Dec.dbl
  split
  · exact ⟨h.1, by dsimp only; rw [h.2.1], h.2.2.2⟩
  · exact ⟨rfl, rfl, fun h => h⟩
inductive Inv_DWiden_0 (s : Shared) (g' : Heap) (L' : Addr) (c : DecAt) (y : Dec) (mm : Str → Option Value) (n : Nat) (s₁ : Shared) : Prop
  | mk : ∀ z h tk u1 u2 u3 u4, (s₁ = { s with heap := h, toks := tk }) → (Fr g' L' h mm) → (News g' L' h (decL c z u1 u2 u3 u4)) → (z.octs = y.octs) → (0 ≤ z.at_) → (1 ≤ z.size) → (32768 ≤ z.size * 2 ^ n) → (Dec.widenN n z = y.widen) → Inv_DWiden_0 s g' L' c y mm n s₁
set_option maxHeartbeats 4000000 in
theorem dwiden_ctr {prog : Program} {w : World} {mean : ExcName → Option Value} {mg mb : Str → Option Value} {c : DecAt} {y : Dec} {t1 t2 t3 t4 : Tok}
    (o : c.ok) (ho : Octets y.octs) (hl : y.octs.length < 100000) (ha : 0 ≤ y.at_) (hs : 1 ≤ y.size) :
    CtrC prog w mean mg mb 260 20 200 [.ref c.e] (decL c y t1 t2 t3 t4) (DecR c y.widen) := by
  intro dp un gd cn cs a ccd cl outer A₀ base h₀ L m s Q B F X N T hk hd hu hret
  have o1 : @LT.lt Nat _ c.d c.e := o
  refine .call ?_
  k_dflt (refine' codeC.code_def ?k1 ?k2 ?k3 ?k4 ?k5 ?kA ?kF ?kK ?k6 ?k7 ?k8 ?k9 ?kB ?_ ?c2 ?c3 ?c4 ?c5; k_extra "m_open")
  intro g' L' h' KG' FG' F' N' B' X' T' lN'
  try dsimp only
  first | (refine wpAny_folded ?_; intro M9 e9 A9; k_fold) | (refine wpC.folded ?_; intro M9 e9 A9 q9)
  refine .execs_cons (wpC.While (n₀ := 16) (Inv_DWiden_0 s g' L' c y _)
    ⟨y, h', _, t1, t2, t3, t4, rfl, F', N', rfl, ha, hs, by (first | lia | omega), rfl⟩ ?_)
  rintro n s₁ ⟨z, h1, tk1, u1, u2, u3, u4, rfl, FF, NN, ez, za, zs, hs, hw⟩ P9
  clear F' N'
  dsimp only [decL, decD] at NN
  k_steps
  · rename _ < _ => hlt
    obtain ⟨k, rfl⟩ : ∃ k, n = k + 1 := by
      cases n with
      | zero => exfalso; simp at hs; (first | lia | omega)
      | succ k => exact ⟨k, rfl⟩
    rw [dwiden_go hlt] at hw
    have hsame := z.dbl_same
    have hpow := Int.pow_succ 2 k
    have hs2 : 32768 ≤ z.dbl.size * 2 ^ k := by rw [hsame.2.1, Int.mul_assoc, Int.mul_comm 2, ← hpow]; exact hs
    refine .execs_cons (.IfL ?_)
    k_steps
    · rename z.left = 0 => h0
      refine .execs_cons (.Expr (.MethodCall ?_))
      k_steps
      rename Fr g' L' _ _ => FF
      rename News g' L' _ _ => NN
      k_dflt (refine' .callWith_K0 (K := Mine.hd.heap_39 w.params) ?k1 ?k2 ?_; (case k1 => k_in); (case k2 => k_is))
      have hC := din_ctr (prog := prog) (w := w) (mean := mean) (mg := mg) (mb := mb) (c := c) (y := z) (t1 := u1) (t2 := u2) (t3 := u3) (t4 := u4) o (ez ▸ ho) (by rw [ez]; exact hl) za
      refine .of ?_
      k_dflt (refine' Ctr.use hC ?k1 ?k2 ?k3 ?k4 ?k5 ?k6 ?k7 ?k8 ?_; (case k1 => k_asm); (case k2 => exact FF); (case k3 => k_asm); (case k4 => exact NN); (case k5 => k_asm); (case k6 => exact rfl); (case k7 => exact bnd2 1 10 hd rfl); (case k8 => exact bnd2 3 100 hu rfl))
      clear hC
      rintro _ _ h2 tk2 ⟨rfl, w1, w2, w3, w4, rfl⟩ F2 N2 K2
      clear NN FF
      dsimp only [decL, decD] at N2
      k_extra "m_start"
      dsimp only
      refine .execs_nil ?_
      dsimp only
      k_extra "m_start"
      k_extra "m_start"
      k_extra "m_start"
      rename Fr g' L' _ _ => F3
      rename News g' L' _ _ => N3
      have ed : z.dbl = { z.inn with size := z.inn.size * 2, code := z.inn.code * 2, left := 8 - 1 } := by unfold Dec.dbl; rw [if_pos h0]; rfl
      refine .execs_nil ⟨k, Nat.lt_succ_self k, z.dbl, _, _, _, _, _, _, rfl, F3, by rw [ed]; exact N3, hsame.1.trans ez, hsame.2.2 za, by (first | lia | omega), hs2, hw⟩
    · rename ¬ z.left = 0 => h0
      refine .execs_nil ?_
      dsimp only
      k_extra "m_start"
      k_extra "m_start"
      k_extra "m_start"
      rename Fr g' L' _ _ => F3
      rename News g' L' _ _ => N3
      have ed : z.dbl = { z with size := z.size * 2, code := z.code * 2, left := z.left - 1 } := by unfold Dec.dbl; rw [if_neg h0]
      refine .execs_nil ⟨k, Nat.lt_succ_self k, z.dbl, _, _, _, _, _, _, rfl, F3, by rw [ed]; exact N3, hsame.1.trans ez, hsame.2.2 za, by (first | lia | omega), hs2, hw⟩
  · rename ¬ _ < _ => hge
    rw [dwiden_stop hge] at hw
    exact .execs_nil (leaveK_ FF NN fun kF kN => hret _ _ _ _ ⟨rfl, u1, u2, u3, u4, by rw [← hw]⟩ kF kN (KG'.of_fr FF))
end
section
noncomputable abbrev dbothL (c : DecAt) (y : Dec) (t1 t2 t3 t4 : Tok) (d : BinAt) (vs ws : List Value) (n1 n2 : Nat) : List (Addr × Obj) :=
  [(c.e, instObj 277 c.d), (c.d, decD c y t1 t2 t3 t4), (d.e, instObj 214 d.d), (d.d, binD d), (d.s, listOf vs.toArray n1), (d.t, listOf ws.toArray n2)]
noncomputable def dapart (c : DecAt) (d : BinAt) : Prop := c.ok ∧ @LT.lt Nat _ c.e d.d ∧ d.ok
theorem dec_le {c : DecAt} {x : Dec} {t1 t2 t3 t4 : Tok} (o : c.ok) : ∀ p ∈ decL c x t1 t2 t3 t4, @LE.le Nat _ p.1 c.e :=
  List.forall_mem_cons.mpr ⟨Nat.le_refl _, List.forall_mem_cons.mpr ⟨Nat.le_of_lt o, fun _ h => absurd h List.not_mem_nil⟩⟩
theorem dboth_bins {h₀ h h' : Heap} {L : Addr} {c : DecAt} {x : Dec} {t1 t2 t3 t4 : Tok} {d : BinAt} {vs ws vs' ws' : List Value} {n1 n2 m1 m2 : Nat} (o : dapart c d)
    (N : News h₀ L h (dbothL c x t1 t2 t3 t4 d vs ws n1 n2)) (NB : News h₀ L h' (binL d vs' ws' m1 m2)) (K : Keeps ((binL d vs ws n1 n2).map (·.1)) h h') : News h₀ L h' (dbothL c x t1 t2 t3 t4 d vs' ws' m1 m2) :=
  news_two (l := decL c x t1 t2 t3 t4) (r := binL d vs ws n1 n2) (fun p hp => Nat.lt_of_le_of_lt (dec_le o.1 p hp) o.2.1) (bin_ge o.2.2) N NB K
theorem dboth_dec {h₀ h h' : Heap} {L : Addr} {c : DecAt} {x x' : Dec} {t1 t2 t3 t4 t1' t2' t3' t4' : Tok} {d : BinAt} {vs ws : List Value} {n1 n2 : Nat} (o : dapart c d)
    (N : News h₀ L h (dbothL c x t1 t2 t3 t4 d vs ws n1 n2)) (NB : News h₀ L h' (decL c x' t1' t2' t3' t4')) (K : Keeps ((decL c x t1 t2 t3 t4).map (·.1)) h h') : News h₀ L h' (dbothL c x' t1' t2' t3' t4' d vs ws n1 n2) :=
  news_two' (l := decL c x t1 t2 t3 t4) (r := binL d vs ws n1 n2) (l' := decL c x' t1' t2' t3' t4') (fun p hp => Nat.lt_of_le_of_lt (dec_le o.1 p hp) o.2.1) (bin_ge o.2.2) N NB K
theorem dboth_b {h₀ h : Heap} {L : Addr} {c : DecAt} {x : Dec} {t1 t2 t3 t4 : Tok} {d : BinAt} {vs ws : List Value} {n1 n2 : Nat} (N : News h₀ L h (dbothL c x t1 t2 t3 t4 d vs ws n1 n2)) : News h₀ L h (binL d vs ws n1 n2) := News.perm N fun p hp => List.mem_append_right (decL c x t1 t2 t3 t4) hp
theorem dboth_d {h₀ h : Heap} {L : Addr} {c : DecAt} {x : Dec} {t1 t2 t3 t4 : Tok} {d : BinAt} {vs ws : List Value} {n1 n2 : Nat} (N : News h₀ L h (dbothL c x t1 t2 t3 t4 d vs ws n1 n2)) : News h₀ L h (decL c x t1 t2 t3 t4) := News.perm N fun p hp => List.mem_append_left (binL d vs ws n1 n2) hp
noncomputable def decGet (y : Dec) (b : Bin) (k : Int) : Dec × Bin × Int :=
  if y.code < (y.size - lessOf (b.ss.getD k.toNat 0)) * 65536 then
    if y.size - lessOf (b.ss.getD k.toNat 0) ≥ 32768 then ({ y with size := y.size - lessOf (b.ss.getD k.toNat 0) }, b, b.es.getD k.toNat 0)
    else if y.size - lessOf (b.ss.getD k.toNat 0) ≥ lessOf (b.ss.getD k.toNat 0) then (Dec.widen { y with size := y.size - lessOf (b.ss.getD k.toNat 0) }, b.more k, b.es.getD k.toNat 0)
    else (Dec.widen { y with size := y.size - lessOf (b.ss.getD k.toNat 0) }, b.less k, 1 - b.es.getD k.toNat 0)
  else
    if y.size - lessOf (b.ss.getD k.toNat 0) < lessOf (b.ss.getD k.toNat 0) then (Dec.widen { y with size := lessOf (b.ss.getD k.toNat 0), code := y.code - (y.size - lessOf (b.ss.getD k.toNat 0)) * 65536 }, b.more k, b.es.getD k.toNat 0)
    else (Dec.widen { y with size := lessOf (b.ss.getD k.toNat 0), code := y.code - (y.size - lessOf (b.ss.getD k.toNat 0)) * 65536 }, b.less k, 1 - b.es.getD k.toNat 0)
inductive GetR (c : DecAt) (d : BinAt) (q : Dec × Bin × Int) (v : Value) (B : List (Addr × Obj)) : Prop
  | mk : ∀ u t1 t2 t3 t4 vs ws n1 n2, v = .int q.2.2 u → IntsAre vs q.2.1.ss → IntsAre ws q.2.1.es → B = dbothL c q.1 t1 t2 t3 t4 d vs ws n1 n2 → GetR c d q v B
set_option maxHeartbeats 8000000 in
theorem dget_ctr {prog : Program} {w : World} {mean : ExcName → Option Value} {mg mb : Str → Option Value} {c : DecAt} {y : Dec} {t1 t2 t3 t4 : Tok} {d : BinAt} {b : Bin} {vs ws : List Value} {n1 n2 : Nat} {k : Int} {t : Tok}
    (o : dapart c d) (ho : Octets y.octs) (hl : y.octs.length < 100000) (ha : 0 ≤ y.at_) (hs : 32768 ≤ y.size) (hb : BinOk b) (hv : IntsAre vs b.ss) (hw : IntsAre ws b.es) (k0 : 0 ≤ k) (k1 : k < 49) :
    CtrC prog w mean mg mb 267 40 500 [.ref c.e, .ref d.e, .int k t] (dbothL c y t1 t2 t3 t4 d vs ws n1 n2)
      (GetR c d (decGet y b k)) := by
  intro dp un gd cn cs a ccd cl outer A₀ base h₀ L m s Q B F X N T hk hd hu hret
  have oc := o.1
  have oc1 : @LT.lt Nat _ c.d c.e := o.1
  obtain ⟨-, oo, ob⟩ := id o
  have ob' := ob
  obtain ⟨o3, o4, o5⟩ := ob'
  have hst := hb.st k0 k1
  have hls := hb.ls
  have hle := hb.le
  have hrow := row_in hst.1 hst.2
  refine .call ?_
  k_dflt (refine' codeC.code_def ?k1 ?k2 ?k3 ?k4 ?k5 ?kA ?kF ?kK ?k6 ?k7 ?k8 ?k9 ?kB ?_ ?c2 ?c3 ?c4 ?c5; k_extra "m_open")
  intro g' L' h' KG' FG' F' N' B' X' T' lN'
  try dsimp only
  first | (refine wpAny_folded ?_; intro M9 e9 A9; k_fold) | (refine wpC.folded ?_; intro M9 e9 A9 q9)
  k_extra "m_start"
  k_extra "m_start"
  k_extra "m_start"
  k_extra "m_start"
  · rename y.code < _ => hc1
    rename _ ≤ _ => hc2
    rename News h₀ L _ _ => kN
    rename Fr h₀ L _ _ => kF
    rename Fr g' L' _ _ => F8
    have e : decGet y b k = ({ y with size := y.size - lessOf (b.ss.getD k.toNat 0) }, b, b.es.getD k.toNat 0) := by unfold decGet; rw [if_pos hc1, if_pos hc2]
    rw [e] at hret
    exact hret _ _ _ _ ⟨_, _, _, _, _, vs, ws, _, _, rfl, hv, hw, rfl⟩ kF kN (KG'.of_fr F8)
  · rename y.code < _ => hc1
    rename ¬ _ ≤ _ => hc2
    k_extra "m_start"
    all_goals refine Stop.mk ?_
    · rename _ ≤ _ => hc3
      rename Fr g' L' _ _ => FF
      rename News g' L' _ _ => NN
      obtain ⟨v1, v2, v3, v4, NN⟩ : ∃ v1 v2 v3 v4, News g' L' _ (dbothL c { y with size := y.size - lessOf (b.ss.getD k.toNat 0) } v1 v2 v3 v4 d vs ws n1 n2) := ⟨_, _, _, _, NN⟩
      have e : decGet y b k = (Dec.widen { y with size := y.size - lessOf (b.ss.getD k.toNat 0) }, b.more k, b.es.getD k.toNat 0) := by unfold decGet; rw [if_pos hc1, if_neg hc2, if_pos hc3]
      have hC := fun t => more_ctr (prog := prog) (w := w) (mean := mean) (mg := mg) (mb := mb) (c := d) (b := b) (vs := vs) (ws := ws) (n1 := n1) (n2 := n2) (k := k) (t := t) ⟨o3, o4, o5⟩ hb hv hw k0 k1
      have hB := fun u1 u2 u3 u4 => dwiden_ctr (prog := prog) (w := w) (mean := mean) (mg := mg) (mb := mb) (c := c) (y := { y with size := y.size - lessOf (b.ss.getD k.toNat 0) }) (t1 := u1) (t2 := u2) (t3 := u3) (t4 := u4) oc ho hl ha (by dsimp only; omega)
      have NP : News g' L' _ (binL d vs ws n1 n2) := dboth_b NN
      k_dflt (refine' Ctr.use (hC _) ?k1 ?k2 ?k3 ?k4 ?k5 ?k6 ?k7 ?k8 ?_; (case k1 => k_asm); (case k2 => exact FF); (case k3 => k_asm); (case k4 => exact NP); (case k5 => k_asm); (case k6 => exact rfl); (case k7 => exact bnd2 1 10 hd rfl); (case k8 => exact bnd2 3 100 hu rfl))
      clear hC
      rintro _ _ h2 tk2 ⟨rfl, vs', ws', m1, m2, hv', hw', rfl⟩ F2 N2 K2
      have N3 := dboth_bins o NN N2 K2
      clear NN NP N2 FF
      k_steps
      refine .execs_cons (.Expr (.MethodCall ?_))
      k_steps
      rename Fr g' L' _ _ => F4
      rename News g' L' _ _ => N4
      have NP : News g' L' _ (decL c { y with size := y.size - lessOf (b.ss.getD k.toNat 0) } v1 v2 v3 v4) := dboth_d N4
      k_dflt (refine' .callWith_K0 (K := Mine.hd.heap_39 w.params) ?k1 ?k2 ?_; (case k1 => k_in); (case k2 => k_is))
      k_dflt (refine' CtrC.use (hB _ _ _ _) ?k1 ?k2 ?k3 ?k4 ?k5 ?k6 ?k7 ?k8 ?_; (case k1 => k_asm); (case k2 => exact F4); (case k3 => k_asm); (case k4 => exact NP); (case k5 => k_asm); (case k6 => exact rfl); (case k7 => exact bnd2 1 20 hd rfl); (case k8 => exact bnd2 3 200 hu rfl))
      clear hB
      rintro _ _ h3 tk3 ⟨rfl, w1, w2, w3, w4, rfl⟩ F5 N5 K5
      have N6 := dboth_dec o N4 N5 K5
      clear N4 F4 N5 NP
      refine .consL ?_
      k_steps
      rename News h₀ L _ _ => kN
      rename Fr h₀ L _ _ => kF
      rename Fr g' L' _ _ => F8
      rw [e] at hret
      exact hret _ _ _ _ ⟨_, _, _, _, _, vs', ws', _, _, rfl, hv', hw', rfl⟩ kF kN (KG'.of_fr F8)
    · rename ¬ _ ≤ _ => hc3
      rename Fr g' L' _ _ => FF
      rename News g' L' _ _ => NN
      obtain ⟨v1, v2, v3, v4, NN⟩ : ∃ v1 v2 v3 v4, News g' L' _ (dbothL c { y with size := y.size - lessOf (b.ss.getD k.toNat 0) } v1 v2 v3 v4 d vs ws n1 n2) := ⟨_, _, _, _, NN⟩
      have e : decGet y b k = (Dec.widen { y with size := y.size - lessOf (b.ss.getD k.toNat 0) }, b.less k, 1 - b.es.getD k.toNat 0) := by unfold decGet; rw [if_pos hc1, if_neg hc2, if_neg hc3]
      have hC := fun t => less_ctr (prog := prog) (w := w) (mean := mean) (mg := mg) (mb := mb) (c := d) (b := b) (vs := vs) (ws := ws) (n1 := n1) (n2 := n2) (k := k) (t := t) ⟨o3, o4, o5⟩ hb hv hw k0 k1
      have hB := fun u1 u2 u3 u4 => dwiden_ctr (prog := prog) (w := w) (mean := mean) (mg := mg) (mb := mb) (c := c) (y := { y with size := y.size - lessOf (b.ss.getD k.toNat 0) }) (t1 := u1) (t2 := u2) (t3 := u3) (t4 := u4) oc ho hl ha (by dsimp only; omega)
      have NP : News g' L' _ (binL d vs ws n1 n2) := dboth_b NN
      k_dflt (refine' Ctr.use (hC _) ?k1 ?k2 ?k3 ?k4 ?k5 ?k6 ?k7 ?k8 ?_; (case k1 => k_asm); (case k2 => exact FF); (case k3 => k_asm); (case k4 => exact NP); (case k5 => k_asm); (case k6 => exact rfl); (case k7 => exact bnd2 1 10 hd rfl); (case k8 => exact bnd2 3 100 hu rfl))
      clear hC
      rintro _ _ h2 tk2 ⟨rfl, vs', ws', m1, m2, hv', hw', rfl⟩ F2 N2 K2
      have N3 := dboth_bins o NN N2 K2
      clear NN NP N2 FF
      k_steps
      refine .execs_cons (.Expr (.MethodCall ?_))
      k_steps
      rename Fr g' L' _ _ => F4
      rename News g' L' _ _ => N4
      have NP : News g' L' _ (decL c { y with size := y.size - lessOf (b.ss.getD k.toNat 0) } v1 v2 v3 v4) := dboth_d N4
      k_dflt (refine' .callWith_K0 (K := Mine.hd.heap_39 w.params) ?k1 ?k2 ?_; (case k1 => k_in); (case k2 => k_is))
      k_dflt (refine' CtrC.use (hB _ _ _ _) ?k1 ?k2 ?k3 ?k4 ?k5 ?k6 ?k7 ?k8 ?_; (case k1 => k_asm); (case k2 => exact F4); (case k3 => k_asm); (case k4 => exact NP); (case k5 => k_asm); (case k6 => exact rfl); (case k7 => exact bnd2 1 20 hd rfl); (case k8 => exact bnd2 3 200 hu rfl))
      clear hB
      rintro _ _ h3 tk3 ⟨rfl, w1, w2, w3, w4, rfl⟩ F5 N5 K5
      have N6 := dboth_dec o N4 N5 K5
      clear N4 F4 N5 NP
      refine .consL ?_
      k_steps
      rename News h₀ L _ _ => kN
      rename Fr h₀ L _ _ => kF
      rename Fr g' L' _ _ => F8
      rw [e] at hret
      exact hret _ _ _ _ ⟨_, _, _, _, _, vs', ws', _, _, rfl, hv', hw', rfl⟩ kF kN (KG'.of_fr F8)
  · rename ¬ y.code < _ => hc1
    k_extra "m_start"
    all_goals refine Stop.mk ?_
    · rename _ < _ => hc3
      rename Fr g' L' _ _ => FF
      rename News g' L' _ _ => NN
      obtain ⟨v1, v2, v3, v4, NN⟩ : ∃ v1 v2 v3 v4, News g' L' _ (dbothL c { y with size := lessOf (b.ss.getD k.toNat 0), code := y.code - (y.size - lessOf (b.ss.getD k.toNat 0)) * 65536 } v1 v2 v3 v4 d vs ws n1 n2) := ⟨_, _, _, _, NN⟩
      have e : decGet y b k = (Dec.widen { y with size := lessOf (b.ss.getD k.toNat 0), code := y.code - (y.size - lessOf (b.ss.getD k.toNat 0)) * 65536 }, b.more k, b.es.getD k.toNat 0) := by unfold decGet; rw [if_neg hc1, if_pos hc3]
      have hC := fun t => more_ctr (prog := prog) (w := w) (mean := mean) (mg := mg) (mb := mb) (c := d) (b := b) (vs := vs) (ws := ws) (n1 := n1) (n2 := n2) (k := k) (t := t) ⟨o3, o4, o5⟩ hb hv hw k0 k1
      have hB := fun u1 u2 u3 u4 => dwiden_ctr (prog := prog) (w := w) (mean := mean) (mg := mg) (mb := mb) (c := c) (y := { y with size := lessOf (b.ss.getD k.toNat 0), code := y.code - (y.size - lessOf (b.ss.getD k.toNat 0)) * 65536 }) (t1 := u1) (t2 := u2) (t3 := u3) (t4 := u4) oc ho hl ha (by dsimp only; omega)
      have NP : News g' L' _ (binL d vs ws n1 n2) := dboth_b NN
      k_dflt (refine' Ctr.use (hC _) ?k1 ?k2 ?k3 ?k4 ?k5 ?k6 ?k7 ?k8 ?_; (case k1 => k_asm); (case k2 => exact FF); (case k3 => k_asm); (case k4 => exact NP); (case k5 => k_asm); (case k6 => exact rfl); (case k7 => exact bnd2 1 10 hd rfl); (case k8 => exact bnd2 3 100 hu rfl))
      clear hC
      rintro _ _ h2 tk2 ⟨rfl, vs', ws', m1, m2, hv', hw', rfl⟩ F2 N2 K2
      have N3 := dboth_bins o NN N2 K2
      clear NN NP N2 FF
      k_steps
      refine .execs_cons (.Expr (.MethodCall ?_))
      k_steps
      rename Fr g' L' _ _ => F4
      rename News g' L' _ _ => N4
      have NP : News g' L' _ (decL c { y with size := lessOf (b.ss.getD k.toNat 0), code := y.code - (y.size - lessOf (b.ss.getD k.toNat 0)) * 65536 } v1 v2 v3 v4) := dboth_d N4
      k_dflt (refine' .callWith_K0 (K := Mine.hd.heap_39 w.params) ?k1 ?k2 ?_; (case k1 => k_in); (case k2 => k_is))
      k_dflt (refine' CtrC.use (hB _ _ _ _) ?k1 ?k2 ?k3 ?k4 ?k5 ?k6 ?k7 ?k8 ?_; (case k1 => k_asm); (case k2 => exact F4); (case k3 => k_asm); (case k4 => exact NP); (case k5 => k_asm); (case k6 => exact rfl); (case k7 => exact bnd2 1 20 hd rfl); (case k8 => exact bnd2 3 200 hu rfl))
      clear hB
      rintro _ _ h3 tk3 ⟨rfl, w1, w2, w3, w4, rfl⟩ F5 N5 K5
      have N6 := dboth_dec o N4 N5 K5
      clear N4 F4 N5 NP
      refine .consL ?_
      k_steps
      rename News h₀ L _ _ => kN
      rename Fr h₀ L _ _ => kF
      rename Fr g' L' _ _ => F8
      rw [e] at hret
      exact hret _ _ _ _ ⟨_, _, _, _, _, vs', ws', _, _, rfl, hv', hw', rfl⟩ kF kN (KG'.of_fr F8)
    · rename ¬ _ < _ => hc3
      rename Fr g' L' _ _ => FF
      rename News g' L' _ _ => NN
      obtain ⟨v1, v2, v3, v4, NN⟩ : ∃ v1 v2 v3 v4, News g' L' _ (dbothL c { y with size := lessOf (b.ss.getD k.toNat 0), code := y.code - (y.size - lessOf (b.ss.getD k.toNat 0)) * 65536 } v1 v2 v3 v4 d vs ws n1 n2) := ⟨_, _, _, _, NN⟩
      have e : decGet y b k = (Dec.widen { y with size := lessOf (b.ss.getD k.toNat 0), code := y.code - (y.size - lessOf (b.ss.getD k.toNat 0)) * 65536 }, b.less k, 1 - b.es.getD k.toNat 0) := by unfold decGet; rw [if_neg hc1, if_neg hc3]
      have hC := fun t => less_ctr (prog := prog) (w := w) (mean := mean) (mg := mg) (mb := mb) (c := d) (b := b) (vs := vs) (ws := ws) (n1 := n1) (n2 := n2) (k := k) (t := t) ⟨o3, o4, o5⟩ hb hv hw k0 k1
      have hB := fun u1 u2 u3 u4 => dwiden_ctr (prog := prog) (w := w) (mean := mean) (mg := mg) (mb := mb) (c := c) (y := { y with size := lessOf (b.ss.getD k.toNat 0), code := y.code - (y.size - lessOf (b.ss.getD k.toNat 0)) * 65536 }) (t1 := u1) (t2 := u2) (t3 := u3) (t4 := u4) oc ho hl ha (by dsimp only; omega)
      have NP : News g' L' _ (binL d vs ws n1 n2) := dboth_b NN
      k_dflt (refine' Ctr.use (hC _) ?k1 ?k2 ?k3 ?k4 ?k5 ?k6 ?k7 ?k8 ?_; (case k1 => k_asm); (case k2 => exact FF); (case k3 => k_asm); (case k4 => exact NP); (case k5 => k_asm); (case k6 => exact rfl); (case k7 => exact bnd2 1 10 hd rfl); (case k8 => exact bnd2 3 100 hu rfl))
      clear hC
      rintro _ _ h2 tk2 ⟨rfl, vs', ws', m1, m2, hv', hw', rfl⟩ F2 N2 K2
      have N3 := dboth_bins o NN N2 K2
      clear NN NP N2 FF
      k_steps
      refine .execs_cons (.Expr (.MethodCall ?_))
      k_steps
      rename Fr g' L' _ _ => F4
      rename News g' L' _ _ => N4
      have NP : News g' L' _ (decL c { y with size := lessOf (b.ss.getD k.toNat 0), code := y.code - (y.size - lessOf (b.ss.getD k.toNat 0)) * 65536 } v1 v2 v3 v4) := dboth_d N4
      k_dflt (refine' .callWith_K0 (K := Mine.hd.heap_39 w.params) ?k1 ?k2 ?_; (case k1 => k_in); (case k2 => k_is))
      k_dflt (refine' CtrC.use (hB _ _ _ _) ?k1 ?k2 ?k3 ?k4 ?k5 ?k6 ?k7 ?k8 ?_; (case k1 => k_asm); (case k2 => exact F4); (case k3 => k_asm); (case k4 => exact NP); (case k5 => k_asm); (case k6 => exact rfl); (case k7 => exact bnd2 1 20 hd rfl); (case k8 => exact bnd2 3 200 hu rfl))
      clear hB
      rintro _ _ h3 tk3 ⟨rfl, w1, w2, w3, w4, rfl⟩ F5 N5 K5
      have N6 := dboth_dec o N4 N5 K5
      clear N4 F4 N5 NP
      refine .consL ?_
      k_steps
      rename News h₀ L _ _ => kN
      rename Fr h₀ L _ _ => kF
      rename Fr g' L' _ _ => F8
      rw [e] at hret
      exact hret _ _ _ _ ⟨_, _, _, _, _, vs', ws', _, _, rfl, hv', hw', rfl⟩ kF kN (KG'.of_fr F8)
end
section
noncomputable def Dec.step (y : Dec) : Dec := { y.inn with code := y.inn.code * 256 }
noncomputable def dec0 (octs : List Int) : Dec := Dec.step (Dec.step ⟨octs, 0, 65536, 0, 0⟩)
theorem Dec.inn_code {y : Dec} (ho : Octets y.octs) (ha : 0 ≤ y.at_) : y.code ≤ y.inn.code ∧ y.inn.code ≤ y.code + 65280 := by
  unfold Dec.inn
  split
  · have h1 := ho _ (getD_mem (l := y.octs) (j := y.at_.toNat) (by (first | lia | omega)))
    dsimp only
    (first | lia | omega)
  · (first | lia | omega)
theorem newsNe {h₀ h : Heap} {L : Addr} {news : List (Addr × Obj)} {a b : Addr} {o o' : Obj} (N : News h₀ L h news) (h1 : (a, o) ∈ news) (h2 : (b, o') ∈ news) (h3 : o.cls ≠ o'.cls) : a ≠ b := fun e => by
  subst e
  have := (N _ h1).1.symm.trans (N _ h2).1
  exact h3 (congrArg Obj.cls (Option.some.inj this))
theorem newsKeep1 {h₀ h h' : Heap} {L : Addr} {p : Addr × Obj} {A B : List (Addr × Obj)} (N : News h₀ L h (p :: A)) (NB : News h₀ L h' B) (K : Keeps (A.map (·.1)) h h') (hp : p.1 ∉ A.map (·.1)) : News h₀ L h' (p :: B) :=
  news_after N NB K fun q hq => by
    rcases List.mem_cons.mp hq with rfl | hq
    · exact .inr ⟨.head _, hp⟩
    · exact .inl hq
theorem reg_DNew_0 : True := by
  (k_with "call ref" => ((k_here; (with_reducible show wpAny _ _ (call (Value.ref 253) _ _) _ _ _); refine Stop.out ?_)))
  exact trivial
inductive DecNewR (octs : List Int) (z : Nat) (v : Value) (B : List (Addr × Obj)) : Prop
  | mk : ∀ (c : DecAt) t1 t2 t3 t4, v = .ref c.e → c.ok → c.d = z → B = decL c (dec0 octs) t1 t2 t3 t4 → DecNewR octs z v B
set_option maxHeartbeats 8000000 in
theorem dec_new {prog : Program} {w : World} {mean : ExcName → Option Value} {mg mb : Str → Option Value} {octs : List Int} {t : Tok} (ho : Octets octs) (hl : octs.length < 90000) :
    NewC prog w mean mg mb 277 20 200 [.bytes (byteArr octs) t] (DecNewR octs) := by
  intro dp un gd cn cs a ccd cl outer A₀ base h₀ L m s Q B F X T hk hd hu hret
  have N : News h₀ L s.heap [] := News.nil
  have hlen := byteArr_size octs
  k_dflt (refine' wpC.make (K := Mine.hd.heap_39 w.params) (fI := 246) F N (X.keeps F.keep) ?k2 ?k3 ?k4 ?_; (case k2 => k_is); (case k3 => k_is); (case k4 => k_is))
  intro x dx h1 F1 N1 hdx hlt hkp
  clear N
  k_dflt (refine' codeC.code_def ?k1 ?k2 ?k3 ?k4 ?k5 ?kA ?kF ?kK ?k6 ?k7 ?k8 ?k9 ?kB ?_ ?c2 ?c3 ?c4 ?c5; k_extra "m_open")
  intro g' L' h' KG' FG' F' N' B' X' T' lN'
  try dsimp only
  first | (refine wpAny_folded ?_; intro M9 e9 A9; k_fold) | (refine wpC.folded ?_; intro M9 e9 A9 q9)
  k_extra "m_start"
  k_extra "m_start"
  k_extra "m_start"
  k_extra "m_start"
  k_extra "m_start"
  k_extra "m_start"
  refine Stop.mk ?_
  rename Fr g' _ _ _ => FF
  rename News g' _ _ _ => NN
  obtain ⟨c, v1, v2, v3, v4, rfl, rfl, NX⟩ : ∃ (c : DecAt) (v1 v2 v3 v4 : Tok), c.e = x ∧ c.d = dx ∧ News g' L' _ ((_, itR _ _) :: decL c ⟨octs, 0, 65536, 0, 0⟩ v1 v2 v3 v4) := ⟨⟨dx, x, _, _, _, _, _, _, _, _, _, _, _⟩, _, _, _, _, rfl, rfl, NN⟩
  have NP : News g' L' _ (decL c ⟨octs, 0, 65536, 0, 0⟩ v1 v2 v3 v4) := News.perm NX (fun p hp => .tail _ hp)
  have hne : ∀ {i : Addr} {o : Obj}, (i, o) ∉ [(c.e, instObj 277 c.d)] → True := fun _ => trivial
  have hC := din_ctr (prog := prog) (w := w) (mean := mean) (mg := mg) (mb := mb) (c := c) (y := ⟨octs, 0, 65536, 0, 0⟩) (t1 := v1) (t2 := v2) (t3 := v3) (t4 := v4) hlt ho (by show octs.length < 100000; (first | lia | omega)) (by first | exact Int.le_refl 0 | exact (Dec.inn_same _).2.2.2 (Int.le_refl 0))
  k_dflt (refine' Ctr.use hC ?k1 ?k2 ?k3 ?k4 ?k5 ?k6 ?k7 ?k8 ?_; (case k1 => k_asm); (case k2 => exact FF); (case k3 => k_asm); (case k4 => exact NP); (case k5 => k_asm); (case k6 => exact rfl); (case k7 => exact bnd3 1 1 10 hd rfl); (case k8 => exact bnd3 1 3 100 hu rfl))
  clear hC
  rintro _ _ h2 tk2 ⟨rfl, w1, w2, w3, w4, rfl⟩ F2 N2 K2
  have N3 := newsKeep1 NX N2 K2 (by
    have n1 := newsNe NX (.head _) (.tail _ (.head _)) (by intro h; cases h)
    have n2 := newsNe NX (.head _) (.tail _ (.tail _ (.head _))) (by intro h; exact absurd (Value.type.inj h) (by decide))
    simp only [List.map_cons, List.map_nil, List.mem_cons, List.not_mem_nil, or_false]
    rintro (q | q)
    · exact n1 q
    · exact n2 q)
  clear NN NX NP N2 FF
  dsimp only
  have hb1 := Dec.inn_code (y := ⟨octs, 0, 65536, 0, 0⟩) ho (Int.le_refl 0)
  have hs1 := Dec.inn_same ⟨octs, 0, 65536, 0, 0⟩
  dsimp only at hb1 hs1
  obtain ⟨hb1, hb2⟩ := hb1
  dsimp only [decL, decD] at N3
  k_steps
  refine Stop.mk ?_
  rename Fr g' _ _ _ => FF
  rename News g' _ _ _ => NN
  obtain ⟨v1, v2, v3, v4, NX⟩ : ∃ (v1 v2 v3 v4 : Tok), News g' L' _ ((_, itR _ _) :: decL c (Dec.step ⟨octs, 0, 65536, 0, 0⟩) v1 v2 v3 v4) := ⟨_, _, _, _, NN⟩
  have NP : News g' L' _ (decL c (Dec.step ⟨octs, 0, 65536, 0, 0⟩) v1 v2 v3 v4) := News.perm NX (fun p hp => .tail _ hp)
  have hne : ∀ {i : Addr} {o : Obj}, (i, o) ∉ [(c.e, instObj 277 c.d)] → True := fun _ => trivial
  have hC := din_ctr (prog := prog) (w := w) (mean := mean) (mg := mg) (mb := mb) (c := c) (y := (Dec.step ⟨octs, 0, 65536, 0, 0⟩)) (t1 := v1) (t2 := v2) (t3 := v3) (t4 := v4) hlt (by show Octets (Dec.inn _).octs; rw [hs1.1]; exact ho) (by show (Dec.inn _).octs.length < 100000; rw [hs1.1]; (first | lia | omega)) (hs1.2.2.2 (Int.le_refl 0))
  k_dflt (refine' Ctr.use hC ?k1 ?k2 ?k3 ?k4 ?k5 ?k6 ?k7 ?k8 ?_; (case k1 => k_asm); (case k2 => exact FF); (case k3 => k_asm); (case k4 => exact NP); (case k5 => k_asm); (case k6 => exact rfl); (case k7 => exact bnd3 1 1 10 hd rfl); (case k8 => exact bnd3 1 3 100 hu rfl))
  clear hC
  rintro _ _ h2 tk2 ⟨rfl, w1, w2, w3, w4, rfl⟩ F2 N2 K2
  have N3 := newsKeep1 NX N2 K2 (by
    have n1 := newsNe NX (.head _) (.tail _ (.head _)) (by intro h; cases h)
    have n2 := newsNe NX (.head _) (.tail _ (.tail _ (.head _))) (by intro h; exact absurd (Value.type.inj h) (by decide))
    simp only [List.map_cons, List.map_nil, List.mem_cons, List.not_mem_nil, or_false]
    rintro (q | q)
    · exact n1 q
    · exact n2 q)
  clear NN NX NP N2 FF
  dsimp only
  have hb3 := Dec.inn_code (y := (Dec.step ⟨octs, 0, 65536, 0, 0⟩)) (by show Octets (Dec.inn _).octs; rw [hs1.1]; exact ho) (hs1.2.2.2 (Int.le_refl 0))
  have hb5 : (Dec.step ⟨octs, 0, 65536, 0, 0⟩).code = (Dec.inn ⟨octs, 0, 65536, 0, 0⟩).code * 256 := rfl
  obtain ⟨hb3, hb4⟩ := hb3
  dsimp only [decL, decD] at N3
  k_steps
  dsimp only
  rename Fr g' _ _ _ => FF
  rename News g' _ _ _ => NN
  obtain ⟨v1, v2, v3, v4, NX⟩ : ∃ (v1 v2 v3 v4 : Tok), News g' L' _ (decL c (dec0 octs) v1 v2 v3 v4) := ⟨_, _, _, _, by first | exact NN | exact fun p hp => NN p (.tail _ hp)⟩
  refine .execs_nil (leaveK_ FF NX fun kF kN => ⟨rfl, ?_⟩)
  refine hret _ _ _ _ ⟨c, v1, v2, v3, v4, rfl, hlt, hdx, rfl⟩ kF kN fun b o e hb => ?_
  exact FF.keep b o (KG' b o (hkp b o e hb) (by
    have h5 : @LT.lt Nat _ b s.heap.objs.size := Heap.lt_size e
    have h6 : @Eq Nat c.d s.heap.objs.size := hdx
    have h7 : @LT.lt Nat _ c.d c.e := hlt
    simp only [List.map_cons, List.map_nil, List.mem_cons, List.not_mem_nil, or_false]
    rintro (q | q)
    · have q' : @Eq Nat b c.e := q
      (first | lia | omega)
    · have q' : @Eq Nat b c.d := q
      (first | lia | omega)))
end
theorem off_DNew : True := by
  k_with_none
  (k_with "call builtin:len" => ((k_here; (with_reducible show wpAny _ _ (call (Value.builtin "len") [Value.ref _]) _ _ _); k_dflt (refine' ba_len ?k1 ?k2 ?k3 ?_; (case k1 => k_asm); (case k2 => k_mem); (case k3 => ksw_less); k_whole))))
  (k_with "subscriptTail" => ((k_here; (with_reducible show wpAny _ _ (subscriptTail _ _ (Value.ref _) (Value.int _ _)) _ _ _); k_dflt (refine' ba_item ?k1 ?k2 ?k3 ?k4 ?k5 ?k6 ?_ ?k7; (case k1 => k_asm); (case k2 => k_mem); (case k3 => with_reducible assumption); (case k4 => ksw_less); (case k5 => ksw_less); (case k6 => ksw_less); (case k7 => with_unfolding_all rfl); k_whole))))
  (k_with "subscriptTail" => ((k_here; (with_reducible show wpAny _ _ (subscriptTail _ _ (Value.ref _) (Value.int (-1) _)) _ _ _); k_dflt (refine' ba_last ?k1 ?k2 ?k3 ?k5 ?k6 ?_ ?k7; (case k1 => k_asm); (case k2 => k_mem); (case k3 => with_reducible assumption); (case k5 => ksw_less); (case k6 => ksw_less); (case k7 => with_unfolding_all rfl); k_whole))))
  (k_with "getItem ref int" => ((k_here; (with_reducible show wpAny _ _ (getItem (Value.ref _) (Value.int _ _)) _ _ _); k_dflt (refine' ba_get ?k1 ?k2 ?k3 ?k4 ?k5 ?k6 ?_; (case k1 => k_asm); (case k2 => k_mem); (case k3 => with_reducible assumption); (case k4 => ksw_less); (case k5 => ksw_less); (case k6 => ksw_less); k_whole))))
  (k_with "setItem ref int" => ((k_here; (with_reducible show wpAny _ _ (setItem (Value.ref _) (Value.int _ _) (Value.int _ _)) _ _ _); k_dflt (refine' BA.setItem ?k1 ?k2 ?k3 ?k4 ?k5 ?k6 ?k7 ?k8 ?_; (case k1 => k_asm); (case k2 => k_asm); (case k3 => k_upd); (case k4 => ksw_less); (case k5 => ksw_less); (case k6 => ksw_less); (case k7 => ksw_less); (case k8 => ksw_less); k_whole); intro h' F' N'; (try k_sweep))))
  (k_with "m_open" => ((
    (case kA => exact rfl); (case kF => exact rfl); (case kK => assumption); (case k1 => k_asm); (case k2 => k_asm); (case k3 => k_asm); (case k4 => k_asm); (case k5 => k_asm)
    (case k6 => k_is); (case k7 => k_is); (case k8 => first | exact Nat.lt_of_le_of_lt (Nat.le_add_right _ _) (by assumption) | (refine Nat.lt_of_le_of_lt (Nat.add_le_add_left ?_ _) (by assumption); exact Nat.le_of_ble_eq_true rfl)); (case k9 => first | exact BindsTo.of_eq rfl | exact binds_K (by k_in) rfl (by k_is) rfl rfl rfl); (case c5 => decide); (case kB => exact locs rfl); (case c2 => exact rfl); (case c3 => exact rfl); (case c4 => exact rfl); k_whole)))
  (k_with "m_start" => (((try dsimp only); refine wpC.consL ?_; k_steps; all_goals (try k_fold))))
  (k_with "exec While Compare cons nil" => ((k_here; refine Stop.out ?_)))
  (k_with "exec While BoolOp cons nil" => ((k_here; refine Stop.out ?_)))
  (k_with "getMethod ref" => ((k_here; k_dflt (first
    | (refine' ba_method ?k1 ?k2 BA.slot_append BA.type_append ?_; (case k1 => k_asm); (case k2 => k_mem); k_whole)
    | (refine' ba_method ?k1 ?k2 BA.slot_pop BA.type_pop ?_; (case k1 => k_asm); (case k2 => k_mem); k_whole)))))
  (k_with "subscriptTail" => ((k_here; (with_reducible show wpAny _ _ (subscriptTail _ _ (Value.ref 196) (Value.int _ _)) _ _ _); k_dflt (refine' st_row ?k1 ?k2 ?k3 ?k4 ?_ ?k7; (case k1 => k_asm); (case k2 => k_asm); (case k3 => ksw_less); (case k4 => ksw_less); (case k7 => with_unfolding_all rfl); k_whole))))
  (k_with "subscriptTail" => ((k_here; (with_reducible show wpAny _ _ (subscriptTail _ _ (Value.ref (82 + Int.toNat _)) (Value.int _ _)) _ _ _); k_dflt (first
    | (refine' st_item (j := 0) ?k1 ?k2 ?k3 ?k4 ?k5 ?k6 ?k8 ?_ ?k7; (case k5 => exact rfl); (case k8 => exact ⟨_, rfl⟩); (case k1 => k_asm); (case k2 => k_asm); (case k3 => ksw_less); (case k4 => ksw_less); (case k6 => decide); (case k7 => with_unfolding_all rfl); k_whole)
    | (refine' st_item (j := 1) ?k1 ?k2 ?k3 ?k4 ?k5 ?k6 ?k8 ?_ ?k7; (case k5 => exact rfl); (case k8 => exact ⟨_, rfl⟩); (case k1 => k_asm); (case k2 => k_asm); (case k3 => ksw_less); (case k4 => ksw_less); (case k6 => decide); (case k7 => with_unfolding_all rfl); k_whole)
    | (refine' st_item (j := 2) ?k1 ?k2 ?k3 ?k4 ?k5 ?k6 ?k8 ?_ ?k7; (case k5 => exact rfl); (case k8 => exact ⟨_, rfl⟩); (case k1 => k_asm); (case k2 => k_asm); (case k3 => ksw_less); (case k4 => ksw_less); (case k6 => decide); (case k7 => with_unfolding_all rfl); k_whole)
    | (refine' st_item (j := 3) ?k1 ?k2 ?k3 ?k4 ?k5 ?k6 ?k8 ?_ ?k7; (case k5 => exact rfl); (case k8 => exact ⟨_, rfl⟩); (case k1 => k_asm); (case k2 => k_asm); (case k3 => ksw_less); (case k4 => ksw_less); (case k6 => decide); (case k7 => with_unfolding_all rfl); k_whole)); intro _)))
  (k_with "call ref" => ((k_here; ((first | (with_reducible show wpAny _ _ (call (Value.ref 225) _ _) _ _ _) | (with_reducible show wpAny _ _ (call (Value.ref 232) _ _) _ _ _)); refine Stop.out ?_))))
  exact trivial
section
theorem dwidenN_ok : ∀ (n : Nat) (z : Dec), 1 ≤ z.size → 32768 ≤ z.size * 2 ^ n → 0 ≤ z.at_ → (Dec.widenN n z).octs = z.octs ∧ 0 ≤ (Dec.widenN n z).at_ ∧ 32768 ≤ (Dec.widenN n z).size
  | 0, z, _, h, ha => ⟨rfl, ha, by simpa [Dec.widenN] using h⟩
  | n + 1, z, h1, h, ha => by
    by_cases hlt : z.size < 32768
    · rw [dwiden_go hlt]
      have hs := z.dbl_same
      have e := Int.pow_succ 2 n
      have := dwidenN_ok n z.dbl (by (first | lia | omega)) (by rw [hs.2.1, Int.mul_assoc, Int.mul_comm 2, ← e]; exact h) (hs.2.2 ha)
      exact ⟨this.1.trans hs.1, this.2⟩
    · rw [dwiden_stop hlt]
      exact ⟨rfl, ha, by (first | lia | omega)⟩
structure DGood (octs : List Int) (y : Dec) (b : Bin) : Prop where
  same : y.octs = octs
  oct : Octets y.octs
  len : y.octs.length < 100000
  at0 : 0 ≤ y.at_
  big : 32768 ≤ y.size
  bin : BinOk b
theorem DGood.get {octs : List Int} {y : Dec} {b : Bin} (g : DGood octs y b) {k : Int} (k0 : 0 ≤ k) (k1 : k < 49) : DGood octs (decGet y b k).1 (decGet y b k).2.1 ∧ ((decGet y b k).2.2 = 0 ∨ (decGet y b k).2.2 = 1) := by
  have q := g.bin.st k0 k1
  have r := row_in q.1 q.2
  have z := g.bin.se k0 k1
  have bg := g.big
  have mk : ∀ (y' : Dec) (b' : Bin), y'.octs = y.octs → y'.at_ = y.at_ → 1 ≤ y'.size → BinOk b' → DGood octs y'.widen b' := fun y' b' e1 e2 e3 e4 => by
    have := dwidenN_ok 16 y' e3 (by (first | lia | omega)) (by rw [e2]; exact g.at0)
    have e5 : y'.widen.octs = y.octs := this.1.trans e1
    exact ⟨e5.trans g.same, by rw [e5]; exact g.oct, by rw [e5]; exact g.len, this.2.1, this.2.2, e4⟩
  unfold decGet
  split
  · split
    · exact ⟨⟨g.same, g.oct, g.len, g.at0, by assumption, g.bin⟩, z⟩
    · split
      · exact ⟨mk _ _ rfl rfl (by dsimp only; (first | lia | omega)) (g.bin.more k0 k1), z⟩
      · exact ⟨mk _ _ rfl rfl (by dsimp only; (first | lia | omega)) (g.bin.less k0 k1), by dsimp only; (first | lia | omega)⟩
  · split
    · exact ⟨mk _ _ rfl rfl (by dsimp only; (first | lia | omega)) (g.bin.more k0 k1), z⟩
    · exact ⟨mk _ _ rfl rfl (by dsimp only; (first | lia | omega)) (g.bin.less k0 k1), by dsimp only; (first | lia | omega)⟩
noncomputable def getBits : Nat → Dec → Bin → Int → Int → Int → Dec × Bin × Int
  | 0, y, b, _, _, rest => (y, b, rest)
  | n + 1, y, b, k, high, rest => if high > 1 then getBits n (decGet y b k).1 (decGet y b k).2.1 k (high / 2) (if (decGet y b k).2.2 = 1 then rest + high / 2 else rest) else (y, b, rest)
theorem getBits_stop {n : Nat} {y : Dec} {b : Bin} {k high rest : Int} (h : ¬ high > 1) : getBits n y b k high rest = (y, b, rest) := by
  cases n with
  | zero => rfl
  | succ n => rw [getBits, if_neg h]
theorem getBits_go {n : Nat} {y : Dec} {b : Bin} {k high rest : Int} (h : high > 1) : getBits (n + 1) y b k high rest = getBits n (decGet y b k).1 (decGet y b k).2.1 k (high / 2) (if (decGet y b k).2.2 = 1 then rest + high / 2 else rest) := by rw [getBits, if_pos h]
inductive Inv_DBits_0 (s : Shared) (g' : Heap) (L' : Addr) (high : Int) (u : Tok) (k : Int) (t : Tok) (d : BinAt) (c : DecAt) (octs : List Int) (y : Dec) (b : Bin) (n' : Nat) (s₁ : Shared) : Prop
  | mk : ∀ z b' hi re tr th h tk u1 u2 u3 u4 vs ws n1 n2, (s₁ = { s with heap := h, toks := tk }) → (Fr g' L' h (fun zz => if zz = Str.ofString "rest" then some (.int re tr) else if zz = Str.ofString "high" then some (.int hi th) else List.lookup zz [(Str.ofString "high", .int high u), (Str.ofString "at", .int k t), (Str.ofString "bins", .ref d.e), (Str.ofString "decoder", .ref c.e)])) → (News g' L' h (dbothL c z u1 u2 u3 u4 d vs ws n1 n2)) → (DGood octs z b') → (IntsAre vs b'.ss) → (IntsAre ws b'.es) → (0 ≤ hi) → (hi ≤ high) → (hi < 2 * 2 ^ n') → (getBits n' z b' k hi re = getBits 15 y b k high high) → Inv_DBits_0 s g' L' high u k t d c octs y b n' s₁
set_option maxHeartbeats 8000000 in
theorem gbits_ctr {prog : Program} {w : World} {mean : ExcName → Option Value} {mg mb : Str → Option Value} {c : DecAt} {y : Dec} {t1 t2 t3 t4 : Tok} {d : BinAt} {b : Bin} {vs ws : List Value} {n1 n2 : Nat} {k high : Int} {t u : Tok} {octs : List Int}
    (o : dapart c d) (hg : DGood octs y b) (hv : IntsAre vs b.ss) (hw : IntsAre ws b.es) (k0 : high > 1 → 0 ≤ k) (k1 : high > 1 → k < 49) (q0 : 0 ≤ high) (q1 : high < 65536) :
    CtrC prog w mean mg mb 81 60 1000 [.ref c.e, .ref d.e, .int k t, .int high u] (dbothL c y t1 t2 t3 t4 d vs ws n1 n2)
      (GetR c d (getBits 15 y b k high high)) := by
  intro dp un gd cn cs a ccd cl outer A₀ base h₀ L m s Q B F X N T hk hd hu hret
  refine .call ?_
  k_dflt (refine' codeC.code_def ?k1 ?k2 ?k3 ?k4 ?k5 ?kA ?kF ?kK ?k6 ?k7 ?k8 ?k9 ?kB ?_ ?c2 ?c3 ?c4 ?c5; k_extra "m_open")
  intro g' L' h' KG' FG' F' N' B' X' T' lN'
  try dsimp only
  first | (refine wpAny_folded ?_; intro M9 e9 A9; k_fold) | (refine wpC.folded ?_; intro M9 e9 A9 q9)
  k_extra "m_start"
  rename Fr g' L' _ _ => F1
  rename News g' L' _ _ => N1
  obtain ⟨tr0, th0, F4⟩ : ∃ tr th, Fr g' L' _ (fun y => if y = Str.ofString "rest" then some (.int high tr) else if y = Str.ofString "high" then some (.int high th) else List.lookup y [(Str.ofString "high", .int high u), (Str.ofString "at", .int k t), (Str.ofString "bins", .ref d.e), (Str.ofString "decoder", .ref c.e)]) := ⟨_, _, (frNorm [Str.ofString "rest", Str.ofString "high"] F1 (by (repeat refine off_l (by exact rfl) ?_); (repeat refine off_r (by exact rfl) ?_); exact off_refl) rfl)⟩
  refine .execs_cons (wpC.While (n₀ := 15) (Inv_DBits_0 s g' L' high u k t d c octs y b)
      ⟨y, b, high, high, tr0, th0, _, _, t1, t2, t3, t4, vs, ws, n1, n2, rfl, F4, N1, hg, hv, hw, q0, Int.le_refl _, by (first | lia | omega), rfl⟩ ?_)
  clear F4 N1 F1
  rintro n' s₁ ⟨z, b', hi, re, tr, th, h, tk, u1, u2, u3, u4, vs, ws, n1, n2, rfl, FF, NN, hy, hv, hw, q0, qh, q1, qr⟩ P9
  dsimp only
  k_steps
  · rename 1 < hi => hge
    obtain ⟨n'', rfl⟩ : ∃ k, n' = k + 1 := by
      cases n' with
      | zero => exfalso; simp at q1; (first | lia | omega)
      | succ k => exact ⟨k, rfl⟩
    have kk0 := k0 (by (first | lia | omega))
    have kk1 := k1 (by (first | lia | omega))
    rw [getBits_go hge] at qr
    have e1 : Int.fdiv hi 2 = hi / 2 := Int.fdiv_eq_ediv_of_nonneg _ (by decide)
    k_extra "m_start"
    simp only [e1] at *
    refine .execs_cons (.If (.Compare (.MethodCall ?_)))
    k_steps
    k_dflt (refine' .callWith_KL (K := Mine.hd.heap_39 w.params) ?k1 ?_; (case k1 => k_is); k_whole)
    k_steps
    rename Fr g' L' _ _ => FF
    rename News g' L' _ _ => NN
    have NP : ∃ u1 u2 u3 u4, News g' L' _ (dbothL c z u1 u2 u3 u4 d vs ws n1 n2) := ⟨_, _, _, _, NN⟩
    obtain ⟨u1, u2, u3, u4, NP⟩ := NP
    have hP := fun t => dget_ctr (prog := prog) (w := w) (mean := mean) (mg := mg) (mb := mb) (c := c) (y := z) (t1 := u1) (t2 := u2) (t3 := u3) (t4 := u4) (d := d) (b := b') (vs := vs) (ws := ws) (n1 := n1) (n2 := n2) (k := k) (t := t) o hy.oct hy.len hy.at0 hy.big hy.bin ‹IntsAre vs _› ‹IntsAre ws _› kk0 kk1
    k_dflt (refine' CtrC.use (hP _) ?k1 ?k2 ?k3 ?k4 ?k5 ?k6 ?k7 ?k8 ?_; (case k1 => k_asm); (case k2 => exact FF); (case k3 => k_asm); (case k4 => exact NP); (case k5 => k_asm); (case k6 => exact rfl); (case k7 => exact bnd2 1 40 hd rfl); (case k8 => exact bnd2 3 500 hu rfl))
    clear hP NN NP FF
    rintro _ _ h2 tk2 ⟨tv, w1, w2, w3, w4, vs2, ws2, m1, m2, rfl, hv2, hw2, rfl⟩ F2 N2 K2
    have hg2 := hy.get kk0 kk1
    refine .of ?_
    k_steps
    · rename _ = (1 : Int) => hb1
      rw [if_pos hb1] at qr
      k_extra "m_start"
      rename Fr g' L' _ _ => F3
      rename News g' L' _ _ => N3
      obtain ⟨tr2, th2, F4⟩ : ∃ tr th, Fr g' L' _ (fun y => if y = Str.ofString "rest" then some (.int (re + hi / 2) tr) else if y = Str.ofString "high" then some (.int (hi / 2) th) else List.lookup y [(Str.ofString "high", .int high u), (Str.ofString "at", .int k t), (Str.ofString "bins", .ref d.e), (Str.ofString "decoder", .ref c.e)]) := ⟨_, _, (frNorm [Str.ofString "rest", Str.ofString "high"] F3 (by (repeat refine off_l (by exact rfl) ?_); (repeat refine off_r (by exact rfl) ?_); exact off_refl) rfl)⟩
      refine .execs_nil ?_
      dsimp only
      refine .execs_nil ⟨n'', Nat.lt_succ_self _, _, _, hi / 2, re + hi / 2, tr2, th2, _, _, _, _, _, _, vs2, ws2, m1, m2, rfl, F4, N3, hg2.1, hv2, hw2, by (first | lia | omega), by (first | lia | omega), ?_, qr⟩
      have := Int.pow_succ 2 n''
      (first | lia | omega)
    · rename _ ≠ (1 : Int) => hb1
      rw [if_neg hb1] at qr
      rename Fr g' L' _ _ => F3
      rename News g' L' _ _ => N3
      obtain ⟨tr2, th2, F4⟩ : ∃ tr th, Fr g' L' _ (fun y => if y = Str.ofString "rest" then some (.int re tr) else if y = Str.ofString "high" then some (.int (hi / 2) th) else List.lookup y [(Str.ofString "high", .int high u), (Str.ofString "at", .int k t), (Str.ofString "bins", .ref d.e), (Str.ofString "decoder", .ref c.e)]) := ⟨_, _, (frNorm [Str.ofString "rest", Str.ofString "high"] F3 (by (repeat refine off_l (by exact rfl) ?_); (repeat refine off_r (by exact rfl) ?_); exact off_refl) rfl)⟩
      refine .execs_nil ?_
      dsimp only
      refine .execs_nil ⟨n'', Nat.lt_succ_self _, _, _, hi / 2, re, tr2, th2, _, _, _, _, _, _, vs2, ws2, m1, m2, rfl, F4, N3, hg2.1, hv2, hw2, by (first | lia | omega), by (first | lia | omega), ?_, qr⟩
      have := Int.pow_succ 2 n''
      (first | lia | omega)
  · rename ¬ 1 < hi => hge
    rw [getBits_stop hge] at qr
    have qr' : getBits 15 y b k high high = (z, b', re) := qr.symm
    rw [qr'] at hret
    refine .consL ?_
    k_steps
    rename News h₀ L _ _ => kN
    rename Fr h₀ L _ _ => kF
    rename Fr g' L' _ _ => F8
    exact hret _ _ _ _ ⟨_, _, _, _, _, vs, ws, n1, n2, rfl, hv, hw, rfl⟩ kF kN (KG'.of_fr F8)
end
section
section
variable {prog : Program} {w : World} {A : Around} {E : Value → Shared → Prop} {s : Shared}
theorem wpC.WhileC {env : Env} {test : PySem.Expr} {body : List Stmt} {pos : Pos} {Q : Flow → Shared → Prop} (I : Nat → Shared → Prop) {n₀ : Nat} (h0 : I n₀ s)
    (turn : ∀ n s₁, I n s₁ → let P9 : Flow → Shared → Prop := fun f s₃ => match f with | .next | .cont => ∃ k, k < n ∧ I k s₃ | .brk => Q .next s₃ | .ret v => Q (.ret v) s₃; wpC (model prog w) A (isTrue test env (eval test env)) (fun b s₂ =>
        if b = true then wpC (model prog w) A (execs body env) P9 (fun _ _ => False) s₂
        else Q .next s₂) (fun _ _ => False) s₁) :
    wpC (model prog w) A (exec (.While test body [] pos) env) Q E s := by
  rw [exec_While]
  refine .standAt (.runOwn rfl ?_)
  induction n₀ using Nat.strongRecOn generalizing s with
  | ind n ih =>
    refine .tree ?_
    show wpC _ A ((whileTurn test body [] env).onRaise (fun x => do noteFrame x env; theTreesLotGoes x)) _ _ s
    refine .onRaise ?_
    simp only [whileTurn]
    refine .bind ((turn n s h0).mono (fun b s₂ h₂ => ?_) fun _ _ x => x)
    cases b with
    | false =>
      simp only [Bool.false_eq_true, if_false] at h₂ ⊢
      exact .bind (.execs_nil (.pure h₂))
    | true =>
      simp only [if_true] at h₂ ⊢
      refine .bind (h₂.mono (fun f s₃ h₃ => ?_) fun _ _ x => x)
      cases f with
      | next => obtain ⟨k, hk, hI⟩ := h₃; exact .pure ⟨rfl, rfl, ih k hk hI⟩
      | cont => obtain ⟨k, hk, hI⟩ := h₃; exact .pure ⟨rfl, rfl, ih k hk hI⟩
      | brk => exact .pure h₃
      | ret v => exact .pure h₃
end
noncomputable def getUp : Nat → Dec → Bin → Int → Int → Option (Dec × Bin × Int × Int)
  | 0, _, _, _, _ => none
  | n + 1, y, b, high, at_ => if (decGet y b at_).2.2 = 1 then (if high * 2 ≥ 32768 then none else getUp n (decGet y b at_).1 (decGet y b at_).2.1 (high * 2) (at_ + 1)) else some ((decGet y b at_).1, (decGet y b at_).2.1, high, at_)
noncomputable def getSize (y : Dec) (b : Bin) (k : Int) : Option (Dec × Bin × Int × Int) :=
  if (decGet y b k).2.2 = 0 then some ((decGet y b k).1, (decGet y b k).2.1, 0, k) else getUp 16 (decGet y b k).1 (decGet y b k).2.1 (decGet y b k).2.2 20
inductive SizeGR (c : DecAt) (d : BinAt) (y : Dec) (b : Bin) (hi at_ : Int) (v : Value) (B : List (Addr × Obj)) : Prop
  | mk : ∀ p ta tb t1 t2 t3 t4 vs ws n1 n2, v = .ref p → IntsAre vs b.ss → IntsAre ws b.es → B = (p, tupV [.int hi ta, .int at_ tb]) :: dbothL c y t1 t2 t3 t4 d vs ws n1 n2 → SizeGR c d y b hi at_ v B
inductive Inv_DSize_0 (s : Shared) (g' : Heap) (L' : Addr) (u : Tok) (k : Int) (t : Tok) (d : BinAt) (c : DecAt) (octs : List Int) (y' : Dec) (b' : Bin) (hi' : Int) (at' : Int) (n' : Nat) (s₁ : Shared) : Prop
  | mk : ∀ z b2 hi at_ ta th h tk u1 u2 u3 u4 vs ws n1 n2, (s₁ = { s with heap := h, toks := tk }) → (Fr g' L' h (fun zz => if zz = Str.ofString "at" then some (.int at_ ta) else if zz = Str.ofString "high" then some (.int hi th) else List.lookup zz [(Str.ofString "sizes", .int 20 u), (Str.ofString "at", .int k t), (Str.ofString "bins", .ref d.e), (Str.ofString "decoder", .ref c.e)])) → (News g' L' h (dbothL c z u1 u2 u3 u4 d vs ws n1 n2)) → (DGood octs z b2) → (IntsAre vs b2.ss) → (IntsAre ws b2.es) → (1 ≤ hi) → (20 ≤ at_) → (at_ + n' ≤ 36) → (getUp n' z b2 hi at_ = some (y', b', hi', at')) → Inv_DSize_0 s g' L' u k t d c octs y' b' hi' at' n' s₁
set_option maxHeartbeats 8000000 in
theorem gsize_ctr {prog : Program} {w : World} {mean : ExcName → Option Value} {mg mb : Str → Option Value} {c : DecAt} {y : Dec} {t1 t2 t3 t4 : Tok} {d : BinAt} {b : Bin} {vs ws : List Value} {n1 n2 : Nat} {k : Int} {t u : Tok} {octs : List Int} {y' : Dec} {b' : Bin} {hi' at' : Int}
    (o : dapart c d) (hg : DGood octs y b) (hv : IntsAre vs b.ss) (hw : IntsAre ws b.es) (k0 : 0 ≤ k) (k1 : k < 49) (hr : getSize y b k = some (y', b', hi', at')) :
    CtrC prog w mean mg mb 67 60 1000 [.ref c.e, .ref d.e, .int k t, .int 20 u] (dbothL c y t1 t2 t3 t4 d vs ws n1 n2)
      (SizeGR c d y' b' hi' at') := by
  intro dp un gd cn cs a ccd cl outer A₀ base h₀ L m s Q B F X N T hk hd hu hret
  refine .call ?_
  k_dflt (refine' codeC.code_def ?k1 ?k2 ?k3 ?k4 ?k5 ?kA ?kF ?kK ?k6 ?k7 ?k8 ?k9 ?kB ?_ ?c2 ?c3 ?c4 ?c5; k_extra "m_open")
  intro g' L' h' KG' FG' F' N' B' X' T' lN'
  try dsimp only
  first | (refine wpAny_folded ?_; intro M9 e9 A9; k_fold) | (refine wpC.folded ?_; intro M9 e9 A9 q9)
  refine .execs_cons (.AssignName (.MethodCall ?_))
  k_steps
  k_dflt (refine' .callWith_KL (K := Mine.hd.heap_39 w.params) ?k1 ?_; (case k1 => k_is); k_whole)
  k_steps
  rename Fr g' L' _ _ => FF
  rename News g' L' _ _ => NN
  have NP : ∃ u1 u2 u3 u4, News g' L' _ (dbothL c y u1 u2 u3 u4 d vs ws n1 n2) := ⟨_, _, _, _, NN⟩
  obtain ⟨u1, u2, u3, u4, NP⟩ := NP
  have hP := fun t => dget_ctr (prog := prog) (w := w) (mean := mean) (mg := mg) (mb := mb) (c := c) (y := y) (t1 := u1) (t2 := u2) (t3 := u3) (t4 := u4) (d := d) (b := b) (vs := vs) (ws := ws) (n1 := n1) (n2 := n2) (k := k) (t := t) o hg.oct hg.len hg.at0 hg.big hg.bin ‹IntsAre vs _› ‹IntsAre ws _› k0 k1
  k_dflt (refine' CtrC.use (hP _) ?k1 ?k2 ?k3 ?k4 ?k5 ?k6 ?k7 ?k8 ?_; (case k1 => k_asm); (case k2 => exact FF); (case k3 => k_asm); (case k4 => exact NP); (case k5 => k_asm); (case k6 => exact rfl); (case k7 => exact bnd2 1 40 hd rfl); (case k8 => exact bnd2 3 500 hu rfl))
  clear hP NN NP FF
  rintro _ _ h2 tk2 ⟨tv, w1, w2, w3, w4, vs2, ws2, m1, m2, rfl, hv2, hw2, rfl⟩ F2 N2 K2
  have hg2 := hg.get k0 k1
  unfold getSize at hr
  k_steps
  refine .execs_cons (.IfL ?_)
  k_steps
  · rename _ = (0 : Int) => hb0
    rw [if_pos hb0] at hr
    obtain ⟨rfl, rfl, rfl, rfl⟩ : (decGet y b k).1 = y' ∧ (decGet y b k).2.1 = b' ∧ 0 = hi' ∧ k = at' := by
      have := Option.some.inj hr
      simp only [Prod.mk.injEq] at this
      exact this
    refine .consL ?_
    k_steps
    rename News h₀ L _ _ => kN
    rename Fr h₀ L _ _ => kF
    rename Fr g' L' _ _ => F8
    exact hret _ _ _ _ ⟨_, _, _, _, _, _, _, vs2, ws2, m1, m2, rfl, hv2, hw2, rfl⟩ kF kN (KG'.of_fr F8)
  · rename ¬ _ = (0 : Int) => hb0
    rw [if_neg hb0] at hr
    have hs1 : (decGet y b k).2.2 = 1 := by have := hg2.2; (first | lia | omega)
    refine .execs_nil ?_
    dsimp only
    k_extra "m_start"
    rename Fr g' L' _ _ => F3
    rename News g' L' _ _ => N3
    obtain ⟨ta0, th0, F4⟩ : ∃ ta th, Fr g' L' _ (fun yy => if yy = Str.ofString "at" then some (.int 20 ta) else if yy = Str.ofString "high" then some (.int (decGet y b k).2.2 th) else List.lookup yy [(Str.ofString "sizes", .int 20 u), (Str.ofString "at", .int k t), (Str.ofString "bins", .ref d.e), (Str.ofString "decoder", .ref c.e)]) := ⟨_, _, (frNorm [Str.ofString "at", Str.ofString "high"] F3 (by (repeat refine off_l (by exact rfl) ?_); (repeat refine off_r (by exact rfl) ?_); exact off_refl) rfl)⟩
    dsimp only
    refine .execs_cons (wpC.WhileC (n₀ := 16) (Inv_DSize_0 s g' L' u k t d c octs y' b' hi' at')
      ⟨(decGet y b k).1, (decGet y b k).2.1, (decGet y b k).2.2, 20, ta0, th0, _, _, w1, w2, w3, w4, vs2, ws2, m1, m2, rfl, F4, N3, hg2.1, hv2, hw2, by (first | lia | omega), by decide, by decide, hr⟩ ?_)
    clear F4 N3 F3
    rintro n' s₁ ⟨z, b2, hi, at_, ta, th, h, tk, u1, u2, u3, u4, vs, ws, n1, n2, rfl, FF, NN, hy, hv, hw, q0, q1, q2, qr⟩ P9
    obtain ⟨n'', rfl⟩ : ∃ k, n' = k + 1 := by
      cases n' with
      | zero => cases qr
      | succ k => exact ⟨k, rfl⟩
    rw [getUp] at qr
    refine .Compare (.MethodCall ?_)
    k_steps
    k_dflt (refine' .callWith_KL (K := Mine.hd.heap_39 w.params) ?k1 ?_; (case k1 => k_is); k_whole)
    k_steps
    rename Fr g' L' _ _ => FF
    rename News g' L' _ _ => NN
    have NP : ∃ u1 u2 u3 u4, News g' L' _ (dbothL c z u1 u2 u3 u4 d vs ws n1 n2) := ⟨_, _, _, _, NN⟩
    obtain ⟨u1, u2, u3, u4, NP⟩ := NP
    have hP := fun t => dget_ctr (prog := prog) (w := w) (mean := mean) (mg := mg) (mb := mb) (c := c) (y := z) (t1 := u1) (t2 := u2) (t3 := u3) (t4 := u4) (d := d) (b := b2) (vs := vs) (ws := ws) (n1 := n1) (n2 := n2) (k := at_) (t := t) o hy.oct hy.len hy.at0 hy.big hy.bin ‹IntsAre vs _› ‹IntsAre ws _› (show 0 ≤ at_ by (first | lia | omega)) (show at_ < 49 by (first | lia | omega))
    k_dflt (refine' CtrC.use (hP _) ?k1 ?k2 ?k3 ?k4 ?k5 ?k6 ?k7 ?k8 ?_; (case k1 => k_asm); (case k2 => exact FF); (case k3 => k_asm); (case k4 => exact NP); (case k5 => k_asm); (case k6 => exact rfl); (case k7 => exact bnd2 1 40 hd rfl); (case k8 => exact bnd2 3 500 hu rfl))
    clear hP NN NP FF
    rintro _ _ h2 tk2 ⟨tv, w1, w2, w3, w4, vs2, ws2, m1, m2, rfl, hv2, hw2, rfl⟩ F2 N2 K2
    have hg2 := hy.get (show 0 ≤ at_ by (first | lia | omega)) (show at_ < 49 by (first | lia | omega))
    refine .of ?_
    k_steps
    · rename _ = (1 : Int) => hb1
      rw [if_pos hb1] at qr
      have hm : ¬ hi * 2 ≥ 32768 := fun q => by rw [if_pos q] at qr; cases qr
      rw [if_neg hm] at qr
      k_extra "m_start"
      refine .execs_cons (.IfL ?_)
      k_steps
      · refine .execs_nil ?_
        dsimp only
        k_extra "m_start"
        rename Fr g' L' _ _ => F3
        rename News g' L' _ _ => N3
        obtain ⟨ta2, th2, F4⟩ : ∃ ta th, Fr g' L' _ (fun yy => if yy = Str.ofString "at" then some (.int (at_ + 1) ta) else if yy = Str.ofString "high" then some (.int (hi * 2) th) else List.lookup yy [(Str.ofString "sizes", .int 20 u), (Str.ofString "at", .int k t), (Str.ofString "bins", .ref d.e), (Str.ofString "decoder", .ref c.e)]) := ⟨_, _, (frNorm [Str.ofString "at", Str.ofString "high"] F3 (by (repeat refine off_l (by exact rfl) ?_); (repeat refine off_r (by exact rfl) ?_); exact off_refl) rfl)⟩
        exact .execs_nil ⟨n'', Nat.lt_succ_self _, _, _, hi * 2, at_ + 1, ta2, th2, _, _, _, _, _, _, vs2, ws2, m1, m2, rfl, F4, N3, hg2.1, hv2, hw2, by (first | lia | omega), by (first | lia | omega), by (first | lia | omega), qr⟩
    · rename _ ≠ (1 : Int) => hb1
      rw [if_neg hb1] at qr
      obtain ⟨rfl, rfl, rfl, rfl⟩ : (decGet z b2 at_).1 = y' ∧ (decGet z b2 at_).2.1 = b' ∧ hi = hi' ∧ at_ = at' := by
        have := Option.some.inj qr
        simp only [Prod.mk.injEq] at this
        exact this
      refine .consL ?_
      k_steps
      rename News h₀ L _ _ => kN
      rename Fr h₀ L _ _ => kF
      rename Fr g' L' _ _ => F8
      exact hret _ _ _ _ ⟨_, _, _, _, _, _, _, vs2, ws2, m1, m2, rfl, hv2, hw2, rfl⟩ kF kN (KG'.of_fr F8)
end
section
noncomputable abbrev srcL (l : Addr) (a b : Int) (ta tb : Tok) : List (Addr × Obj) := [(l, listOf #[.int a ta, .int b tb] 0)]
inductive TakeR (l : Addr) (top : Int) (v : Value) (B : List (Addr × Obj)) : Prop
  | mk : ∀ i u a b ta tb, v = .int i u → 0 ≤ i → i < top → B = srcL l a b ta tb → TakeR l top v B
set_option maxHeartbeats 4000000 in
theorem take_ctr {prog : Program} {w : World} {mean : ExcName → Option Value} {mg mb : Str → Option Value} {l : Addr} {a₀ b₀ : Int} {ta tb : Tok} {top : Int} {t : Tok} (ht : 1 ≤ top) (ht2 : top < 1000000) :
    Ctr prog w mean mg mb 351 10 100 [.ref l, .int top t] (srcL l a₀ b₀ ta tb) (TakeR l top) := by
  intro dp un gd cn cs a ccd cl outer A₀ base h₀ L m s Q E B F X N T hk hd hu hret
  refine wpAny_call ?_
  k_dflt (refine' code_defR ?k1 ?k2 ?k3 ?k4 ?k5 ?kA ?kF ?kK ?k6 ?k7 ?k8 ?k9 ?kB ?_ ?c2 ?c3 ?c4 ?c5; k_extra "m_open")
  intro g' L' h' KG' FG' F' N' B' X' T' lN'
  try dsimp only
  first | (refine wpAny_folded ?_; intro M9 e9 A9; k_fold) | (refine wpC.folded ?_; intro M9 e9 A9 q9)
  have htz : ¬ top = 0 := by (first | lia | omega)
  have hm : ∀ z : Int, 0 ≤ z.fmod 2147483647 ∧ z.fmod 2147483647 < 2147483647 := fun z => ⟨Int.fmod_nonneg_of_pos _ (by decide), Int.fmod_lt_of_pos _ (by decide)⟩
  have h8 : 0 ≤ [a₀, ([a₀, b₀].getD (Int.toNat 1) 0 * 39373 + 7).fmod 2147483647].getD (Int.toNat 1) 0 := (hm _).1
  have h9 : [a₀, ([a₀, b₀].getD (Int.toNat 1) 0 * 39373 + 7).fmod 2147483647].getD (Int.toNat 1) 0 < 2147483647 := (hm _).2
  have hx : ∀ z : Int, 0 ≤ z.fmod top ∧ z.fmod top < top := fun z => ⟨Int.fmod_nonneg_of_pos _ (by (first | lia | omega)), Int.fmod_lt_of_pos _ (by (first | lia | omega))⟩
  k_steps
  all_goals (rename News h₀ L _ _ => kN; rename Fr h₀ L _ _ => kF; rename Fr g' L' _ _ => FF)
  · exact hret _ _ _ _ ⟨_, _, _, _, _, _, rfl, (hx _).1, (hx _).2, rfl⟩ kF kN (KG'.of_fr FF)
  · exact hret _ _ _ _ ⟨_, _, _, _, _, _, rfl, (hx _).1, (hx _).2, rfl⟩ kF kN (KG'.of_fr FF)
end
section
inductive OneR (l q : Addr) (xs : List Int) (vs : List Value) (n : Nat) (v : Value) (B : List (Addr × Obj)) : Prop
  | mk : ∀ (i : Int) (u : Tok) (a b : Int) (ta tb : Tok), v = .int (xs.getD i.toNat 0) u → 0 ≤ i → i < xs.length → B = (q, listOf vs.toArray n) :: srcL l a b ta tb → OneR l q xs vs n v B
theorem reg_LOne_0 : True := by
  (k_with "call ref" => ((k_here; (with_reducible show wpAny _ _ (call (Value.ref 351) _ _) _ _ _); refine Stop.out ?_)))
  exact trivial
set_option maxHeartbeats 4000000 in
theorem one_ctr {prog : Program} {w : World} {mean : ExcName → Option Value} {mg mb : Str → Option Value} {l q : Addr} {a₀ b₀ : Int} {ta tb : Tok} {vs : List Value} {xs : List Int} {n : Nat} (hlq : @LT.lt Nat _ l q) (hi : IntsAre vs xs) (h1 : 1 ≤ xs.length) (h2 : xs.length < 100) :
    Ctr prog w mean mg mb 358 20 300 [.ref l, .ref q] ((q, listOf vs.toArray n) :: srcL l a₀ b₀ ta tb) (OneR l q xs vs n) := by
  intro dp un gd cn cs a ccd cl outer A₀ base h₀ L m s Q E B F X N T hk hd hu hret
  have hvl := hi.length
  refine wpAny_call ?_
  k_dflt (refine' code_defR ?k1 ?k2 ?k3 ?k4 ?k5 ?kA ?kF ?kK ?k6 ?k7 ?k8 ?k9 ?kB ?_ ?c2 ?c3 ?c4 ?c5; k_extra "m_open")
  intro g' L' h' KG' FG' F' N' B' X' T' lN'
  try dsimp only
  first | (refine wpAny_folded ?_; intro M9 e9 A9; k_fold) | (refine wpC.folded ?_; intro M9 e9 A9 q9)
  k_steps
  refine Stop.mk ?_
  rename Fr g' L' _ _ => FF
  rename News g' L' _ _ => NN
  have NP : News g' L' _ (srcL l a₀ b₀ ta tb) := News.perm NN (fun p hp => .tail _ hp)
  have hC := fun t => take_ctr (prog := prog) (w := w) (mean := mean) (mg := mg) (mb := mb) (l := l) (a₀ := a₀) (b₀ := b₀) (ta := ta) (tb := tb) (top := (xs.length : Int)) (t := t) (by omega) (by omega)
  k_dflt (refine' Ctr.use (hC _) ?k1 ?k2 ?k3 ?k4 ?k5 ?k6 ?k7 ?k8 ?_; (case k1 => k_asm); (case k2 => exact FF); (case k3 => k_asm); (case k4 => exact NP); (case k5 => k_asm); (case k6 => exact rfl); (case k7 => exact bnd2 1 10 hd rfl); (case k8 => exact bnd2 3 100 hu rfl))
  clear hC
  rintro _ _ h2 tk2 ⟨i, u0, a1, b1, ta1, tb1, rfl, m0, m1, rfl⟩ F2 N2 K2
  have N3 := newsKeep1 NN N2 K2 (by
    simp only [List.map_cons, List.map_nil, List.mem_cons, List.not_mem_nil, or_false]
    intro e
    have e' : @Eq Nat q l := e
    omega)
  clear NN NP N2 FF
  k_steps
  rename News h₀ L _ _ => kN
  rename Fr h₀ L _ _ => kF
  rename Fr g' L' _ _ => F8
  exact hret _ _ _ _ ⟨i, _, _, _, _, _, rfl, m0, m1, rfl⟩ kF kN (KG'.of_fr F8)
end
theorem off_LOne : True := by
  k_with_none
  (k_with "call builtin:len" => ((k_here; (with_reducible show wpAny _ _ (call (Value.builtin "len") [Value.ref _]) _ _ _); k_dflt (refine' ba_len ?k1 ?k2 ?k3 ?_; (case k1 => k_asm); (case k2 => k_mem); (case k3 => ksw_less); k_whole))))
  (k_with "subscriptTail" => ((k_here; (with_reducible show wpAny _ _ (subscriptTail _ _ (Value.ref _) (Value.int _ _)) _ _ _); k_dflt (refine' ba_item ?k1 ?k2 ?k3 ?k4 ?k5 ?k6 ?_ ?k7; (case k1 => k_asm); (case k2 => k_mem); (case k3 => with_reducible assumption); (case k4 => ksw_less); (case k5 => ksw_less); (case k6 => ksw_less); (case k7 => with_unfolding_all rfl); k_whole))))
  (k_with "subscriptTail" => ((k_here; (with_reducible show wpAny _ _ (subscriptTail _ _ (Value.ref _) (Value.int (-1) _)) _ _ _); k_dflt (refine' ba_last ?k1 ?k2 ?k3 ?k5 ?k6 ?_ ?k7; (case k1 => k_asm); (case k2 => k_mem); (case k3 => with_reducible assumption); (case k5 => ksw_less); (case k6 => ksw_less); (case k7 => with_unfolding_all rfl); k_whole))))
  (k_with "getItem ref int" => ((k_here; (with_reducible show wpAny _ _ (getItem (Value.ref _) (Value.int _ _)) _ _ _); k_dflt (refine' ba_get ?k1 ?k2 ?k3 ?k4 ?k5 ?k6 ?_; (case k1 => k_asm); (case k2 => k_mem); (case k3 => with_reducible assumption); (case k4 => ksw_less); (case k5 => ksw_less); (case k6 => ksw_less); k_whole))))
  (k_with "setItem ref int" => ((k_here; (with_reducible show wpAny _ _ (setItem (Value.ref _) (Value.int _ _) (Value.int _ _)) _ _ _); k_dflt (refine' BA.setItem ?k1 ?k2 ?k3 ?k4 ?k5 ?k6 ?k7 ?k8 ?_; (case k1 => k_asm); (case k2 => k_asm); (case k3 => k_upd); (case k4 => ksw_less); (case k5 => ksw_less); (case k6 => ksw_less); (case k7 => ksw_less); (case k8 => ksw_less); k_whole); intro h' F' N'; (try k_sweep))))
  (k_with "m_open" => ((
    (case kA => exact rfl); (case kF => exact rfl); (case kK => assumption); (case k1 => k_asm); (case k2 => k_asm); (case k3 => k_asm); (case k4 => k_asm); (case k5 => k_asm)
    (case k6 => k_is); (case k7 => k_is); (case k8 => first | exact Nat.lt_of_le_of_lt (Nat.le_add_right _ _) (by assumption) | (refine Nat.lt_of_le_of_lt (Nat.add_le_add_left ?_ _) (by assumption); exact Nat.le_of_ble_eq_true rfl)); (case k9 => first | exact BindsTo.of_eq rfl | exact binds_K (by k_in) rfl (by k_is) rfl rfl rfl); (case c5 => decide); (case kB => exact locs rfl); (case c2 => exact rfl); (case c3 => exact rfl); (case c4 => exact rfl); k_whole)))
  (k_with "m_start" => (((try dsimp only); refine wpC.consL ?_; k_steps; all_goals (try k_fold))))
  (k_with "exec While Compare cons nil" => ((k_here; refine Stop.out ?_)))
  (k_with "exec While BoolOp cons nil" => ((k_here; refine Stop.out ?_)))
  (k_with "getMethod ref" => ((k_here; k_dflt (first
    | (refine' ba_method ?k1 ?k2 BA.slot_append BA.type_append ?_; (case k1 => k_asm); (case k2 => k_mem); k_whole)
    | (refine' ba_method ?k1 ?k2 BA.slot_pop BA.type_pop ?_; (case k1 => k_asm); (case k2 => k_mem); k_whole)))))
  (k_with "subscriptTail" => ((k_here; (with_reducible show wpAny _ _ (subscriptTail _ _ (Value.ref 196) (Value.int _ _)) _ _ _); k_dflt (refine' st_row ?k1 ?k2 ?k3 ?k4 ?_ ?k7; (case k1 => k_asm); (case k2 => k_asm); (case k3 => ksw_less); (case k4 => ksw_less); (case k7 => with_unfolding_all rfl); k_whole))))
  (k_with "subscriptTail" => ((k_here; (with_reducible show wpAny _ _ (subscriptTail _ _ (Value.ref (82 + Int.toNat _)) (Value.int _ _)) _ _ _); k_dflt (first
    | (refine' st_item (j := 0) ?k1 ?k2 ?k3 ?k4 ?k5 ?k6 ?k8 ?_ ?k7; (case k5 => exact rfl); (case k8 => exact ⟨_, rfl⟩); (case k1 => k_asm); (case k2 => k_asm); (case k3 => ksw_less); (case k4 => ksw_less); (case k6 => decide); (case k7 => with_unfolding_all rfl); k_whole)
    | (refine' st_item (j := 1) ?k1 ?k2 ?k3 ?k4 ?k5 ?k6 ?k8 ?_ ?k7; (case k5 => exact rfl); (case k8 => exact ⟨_, rfl⟩); (case k1 => k_asm); (case k2 => k_asm); (case k3 => ksw_less); (case k4 => ksw_less); (case k6 => decide); (case k7 => with_unfolding_all rfl); k_whole)
    | (refine' st_item (j := 2) ?k1 ?k2 ?k3 ?k4 ?k5 ?k6 ?k8 ?_ ?k7; (case k5 => exact rfl); (case k8 => exact ⟨_, rfl⟩); (case k1 => k_asm); (case k2 => k_asm); (case k3 => ksw_less); (case k4 => ksw_less); (case k6 => decide); (case k7 => with_unfolding_all rfl); k_whole)
    | (refine' st_item (j := 3) ?k1 ?k2 ?k3 ?k4 ?k5 ?k6 ?k8 ?_ ?k7; (case k5 => exact rfl); (case k8 => exact ⟨_, rfl⟩); (case k1 => k_asm); (case k2 => k_asm); (case k3 => ksw_less); (case k4 => ksw_less); (case k6 => decide); (case k7 => with_unfolding_all rfl); k_whole)); intro _)))
  (k_with "call ref" => ((k_here; ((first | (with_reducible show wpAny _ _ (call (Value.ref 225) _ _) _ _ _) | (with_reducible show wpAny _ _ (call (Value.ref 232) _ _) _ _ _)); refine Stop.out ?_))))
  exact trivial
section
inductive NumR (l : Addr) (v : Value) (B : List (Addr × Obj)) : Prop
  | mk : ∀ p rest at_ u1 u2 a b ta tb, v = .ref p → 0 ≤ rest → rest < 32768 → 0 ≤ at_ → at_ < 20 → B = (p, tupV [.int rest u1, .int at_ u2]) :: srcL l a b ta tb → NumR l v B
theorem newsSkip2 {h₀ h : Heap} {L : Addr} {a b : Addr × Obj} {r : List (Addr × Obj)} (N : News h₀ L h (a :: b :: r)) : News h₀ L h (a :: r) := fun p hp => N p (by
  rcases List.mem_cons.mp hp with rfl | hp
  · exact .head _
  · exact .tail _ (.tail _ hp))
theorem reg_LNum_0 : True := by
  (k_with "call ref" => ((k_here; ((first | (with_reducible show wpAny _ _ (call (Value.ref 351) _ _) _ _ _) | (with_reducible show wpAny _ _ (call (Value.ref 358) _ _) _ _ _)); refine Stop.out ?_))))
  exact trivial
set_option maxHeartbeats 4000000 in
theorem num_ctr {prog : Program} {w : World} {mean : ExcName → Option Value} {mg mb : Str → Option Value} {l : Addr} {a₀ b₀ : Int} {ta tb : Tok} {most : Int} {t : Tok} (ht : 0 ≤ most) (ht2 : most ≤ 15) :
    Ctr prog w mean mg mb 375 40 500 [.ref l, .int most t] (srcL l a₀ b₀ ta tb) (NumR l) := by
  intro dp un gd cn cs a ccd cl outer A₀ base h₀ L m s Q E B F X N T hk hd hu hret
  refine wpAny_call ?_
  k_dflt (refine' code_defR ?k1 ?k2 ?k3 ?k4 ?k5 ?kA ?kF ?kK ?k6 ?k7 ?k8 ?k9 ?kB ?_ ?c2 ?c3 ?c4 ?c5; k_extra "m_open")
  intro g' L' h' KG' FG' F' N' B' X' T' lN'
  try dsimp only
  first | (refine wpAny_folded ?_; intro M9 e9 A9; k_fold) | (refine wpC.folded ?_; intro M9 e9 A9 q9)
  k_steps
  refine Stop.mk ?_
  rename Fr g' L' _ _ => FF
  rename News g' L' _ _ => NN
  have hC := fun t => take_ctr (prog := prog) (w := w) (mean := mean) (mg := mg) (mb := mb) (l := l) (a₀ := a₀) (b₀ := b₀) (ta := ta) (tb := tb) (top := most + 1) (t := t) (by (first | lia | omega)) (by (first | lia | omega))
  k_dflt (refine' Ctr.use (hC _) ?k1 ?k2 ?k3 ?k4 ?k5 ?k6 ?k7 ?k8 ?_; (case k1 => k_asm); (case k2 => exact FF); (case k3 => k_asm); (case k4 => exact NN); (case k5 => k_asm); (case k6 => exact rfl); (case k7 => exact bnd2 1 10 hd rfl); (case k8 => exact bnd2 3 100 hu rfl))
  clear hC
  rintro _ _ h2 tk2 ⟨many, u0, a1, b1, ta1, tb1, rfl, m0, m1, rfl⟩ F2 N2 K2
  clear NN FF
  have hp : ∀ k : Nat, k < 16 → 1 ≤ (2 : Int) ^ k ∧ (2 : Int) ^ k ≤ 32768 := by decide
  obtain ⟨hp1, hp2⟩ := hp many.toNat (by (first | lia | omega))
  have e0 : Int.fdiv (2 ^ many.toNat) 2 = 2 ^ many.toNat / 2 := Int.fdiv_eq_ediv_of_nonneg _ (by decide)
  have hlow : 0 ≤ Int.fdiv (2 ^ many.toNat) 2 ∧ Int.fdiv (2 ^ many.toNat) 2 ≤ 16384 := by rw [e0]; (first | lia | omega)
  k_steps
  refine Stop.mk ?_
  rename Fr g' L' _ _ => FF
  rename News g' L' _ _ => NN
  have htop : 1 ≤ (if Int.fdiv (2 ^ many.toNat) 2 > 1 then Int.fdiv (2 ^ many.toNat) 2 else 1) ∧ (if Int.fdiv (2 ^ many.toNat) 2 > 1 then Int.fdiv (2 ^ many.toNat) 2 else 1) ≤ 16384 := by split <;> (first | lia | omega)
  have hC := fun t => take_ctr (prog := prog) (w := w) (mean := mean) (mg := mg) (mb := mb) (l := l) (a₀ := a1) (b₀ := b1) (ta := ta1) (tb := tb1) (top := if Int.fdiv (2 ^ many.toNat) 2 > 1 then Int.fdiv (2 ^ many.toNat) 2 else 1) (t := t) htop.1 (by (first | lia | omega))
  k_dflt (refine' Ctr.use (hC _) ?k1 ?k2 ?k3 ?k4 ?k5 ?k6 ?k7 ?k8 ?_; (case k1 => k_asm); (case k2 => exact FF); (case k3 => k_asm); (case k4 => exact NN); (case k5 => k_asm); (case k6 => exact rfl); (case k7 => exact bnd2 1 10 hd rfl); (case k8 => exact bnd2 3 100 hu rfl))
  clear hC
  rintro _ _ h3 tk3 ⟨i2, u3, a2, b2, ta2, tb2, rfl, m2, m3, rfl⟩ F3 N3 K3
  clear NN FF
  k_steps
  rename Fr g' L' _ _ => FF
  rename News g' L' _ _ => NN
  rename l < _ => hlq
  have hC := fun vs n (hi : IntsAre vs [2, 3, 6, 7, 10, 11, 14, 15, 18, 19]) => one_ctr (prog := prog) (w := w) (mean := mean) (mg := mg) (mb := mb) (l := l) (a₀ := a2) (b₀ := b2) (ta := ta2) (tb := tb2) (vs := vs) (n := n) hlq hi (by decide) (by decide)
  k_dflt (refine' hC _ _ ?ki _ _ _ _ _ _ _ _ _ _ _ _ _ _ _ _ _ ?k1 ?k2 ?k3 ?k4 ?k5 ?k6 ?k7 ?k8 ?_; (case k1 => k_asm); (case k2 => exact FF); (case k3 => k_asm); (case k4 => exact NN); (case k5 => k_asm); (case k6 => exact rfl); (case k7 => exact bnd2 1 20 hd rfl); (case k8 => exact bnd2 3 300 hu rfl); (case ki => exact .cons _ _ (.cons _ _ (.cons _ _ (.cons _ _ (.cons _ _ (.cons _ _ (.cons _ _ (.cons _ _ (.cons _ _ (.cons _ _ .nil)))))))))))
  clear hC
  rintro _ _ h4 tk4 ⟨i5, u4, a3, b3, ta3, tb3, rfl, m4, m5, rfl⟩ F4 N4 K4
  clear NN FF
  have hat : ∀ k : Nat, k < 10 → 0 ≤ ([2, 3, 6, 7, 10, 11, 14, 15, 18, 19] : List Int).getD k 0 ∧ ([2, 3, 6, 7, 10, 11, 14, 15, 18, 19] : List Int).getD k 0 < 20 := by decide
  have hat2 := hat i5.toNat (by have : ((([2, 3, 6, 7, 10, 11, 14, 15, 18, 19] : List Int).length : Nat) : Int) = 10 := rfl; (first | lia | omega))
  generalize ([2, 3, 6, 7, 10, 11, 14, 15, 18, 19] : List Int).getD i5.toNat 0 = at_ at *
  k_steps
  rename News h₀ L _ _ => kN
  rename Fr h₀ L _ _ => kF
  rename Fr g' L' _ _ => F8
  have hr1 : 0 ≤ Int.fdiv (2 ^ many.toNat) 2 + i2 := by (first | lia | omega)
  have hr2 : Int.fdiv (2 ^ many.toNat) 2 + i2 < 32768 := by
    have h1 := htop
    revert m3
    split <;> intro m3 <;> (first | lia | omega)
  exact hret _ _ _ _ ⟨_, _, _, _, _, _, _, _, _, rfl, hr1, hr2, hat2.1, hat2.2, rfl⟩ kF (newsSkip2 kN) (KG'.of_fr F8)
end
theorem off_LNum : True := by
  k_with_none
  (k_with "call builtin:len" => ((k_here; (with_reducible show wpAny _ _ (call (Value.builtin "len") [Value.ref _]) _ _ _); k_dflt (refine' ba_len ?k1 ?k2 ?k3 ?_; (case k1 => k_asm); (case k2 => k_mem); (case k3 => ksw_less); k_whole))))
  (k_with "subscriptTail" => ((k_here; (with_reducible show wpAny _ _ (subscriptTail _ _ (Value.ref _) (Value.int _ _)) _ _ _); k_dflt (refine' ba_item ?k1 ?k2 ?k3 ?k4 ?k5 ?k6 ?_ ?k7; (case k1 => k_asm); (case k2 => k_mem); (case k3 => with_reducible assumption); (case k4 => ksw_less); (case k5 => ksw_less); (case k6 => ksw_less); (case k7 => with_unfolding_all rfl); k_whole))))
  (k_with "subscriptTail" => ((k_here; (with_reducible show wpAny _ _ (subscriptTail _ _ (Value.ref _) (Value.int (-1) _)) _ _ _); k_dflt (refine' ba_last ?k1 ?k2 ?k3 ?k5 ?k6 ?_ ?k7; (case k1 => k_asm); (case k2 => k_mem); (case k3 => with_reducible assumption); (case k5 => ksw_less); (case k6 => ksw_less); (case k7 => with_unfolding_all rfl); k_whole))))
  (k_with "getItem ref int" => ((k_here; (with_reducible show wpAny _ _ (getItem (Value.ref _) (Value.int _ _)) _ _ _); k_dflt (refine' ba_get ?k1 ?k2 ?k3 ?k4 ?k5 ?k6 ?_; (case k1 => k_asm); (case k2 => k_mem); (case k3 => with_reducible assumption); (case k4 => ksw_less); (case k5 => ksw_less); (case k6 => ksw_less); k_whole))))
  (k_with "setItem ref int" => ((k_here; (with_reducible show wpAny _ _ (setItem (Value.ref _) (Value.int _ _) (Value.int _ _)) _ _ _); k_dflt (refine' BA.setItem ?k1 ?k2 ?k3 ?k4 ?k5 ?k6 ?k7 ?k8 ?_; (case k1 => k_asm); (case k2 => k_asm); (case k3 => k_upd); (case k4 => ksw_less); (case k5 => ksw_less); (case k6 => ksw_less); (case k7 => ksw_less); (case k8 => ksw_less); k_whole); intro h' F' N'; (try k_sweep))))
  (k_with "m_open" => ((
    (case kA => exact rfl); (case kF => exact rfl); (case kK => assumption); (case k1 => k_asm); (case k2 => k_asm); (case k3 => k_asm); (case k4 => k_asm); (case k5 => k_asm)
    (case k6 => k_is); (case k7 => k_is); (case k8 => first | exact Nat.lt_of_le_of_lt (Nat.le_add_right _ _) (by assumption) | (refine Nat.lt_of_le_of_lt (Nat.add_le_add_left ?_ _) (by assumption); exact Nat.le_of_ble_eq_true rfl)); (case k9 => first | exact BindsTo.of_eq rfl | exact binds_K (by k_in) rfl (by k_is) rfl rfl rfl); (case c5 => decide); (case kB => exact locs rfl); (case c2 => exact rfl); (case c3 => exact rfl); (case c4 => exact rfl); k_whole)))
  (k_with "m_start" => (((try dsimp only); refine wpC.consL ?_; k_steps; all_goals (try k_fold))))
  (k_with "exec While Compare cons nil" => ((k_here; refine Stop.out ?_)))
  (k_with "exec While BoolOp cons nil" => ((k_here; refine Stop.out ?_)))
  (k_with "getMethod ref" => ((k_here; k_dflt (first
    | (refine' ba_method ?k1 ?k2 BA.slot_append BA.type_append ?_; (case k1 => k_asm); (case k2 => k_mem); k_whole)
    | (refine' ba_method ?k1 ?k2 BA.slot_pop BA.type_pop ?_; (case k1 => k_asm); (case k2 => k_mem); k_whole)))))
  (k_with "subscriptTail" => ((k_here; (with_reducible show wpAny _ _ (subscriptTail _ _ (Value.ref 196) (Value.int _ _)) _ _ _); k_dflt (refine' st_row ?k1 ?k2 ?k3 ?k4 ?_ ?k7; (case k1 => k_asm); (case k2 => k_asm); (case k3 => ksw_less); (case k4 => ksw_less); (case k7 => with_unfolding_all rfl); k_whole))))
  (k_with "subscriptTail" => ((k_here; (with_reducible show wpAny _ _ (subscriptTail _ _ (Value.ref (82 + Int.toNat _)) (Value.int _ _)) _ _ _); k_dflt (first
    | (refine' st_item (j := 0) ?k1 ?k2 ?k3 ?k4 ?k5 ?k6 ?k8 ?_ ?k7; (case k5 => exact rfl); (case k8 => exact ⟨_, rfl⟩); (case k1 => k_asm); (case k2 => k_asm); (case k3 => ksw_less); (case k4 => ksw_less); (case k6 => decide); (case k7 => with_unfolding_all rfl); k_whole)
    | (refine' st_item (j := 1) ?k1 ?k2 ?k3 ?k4 ?k5 ?k6 ?k8 ?_ ?k7; (case k5 => exact rfl); (case k8 => exact ⟨_, rfl⟩); (case k1 => k_asm); (case k2 => k_asm); (case k3 => ksw_less); (case k4 => ksw_less); (case k6 => decide); (case k7 => with_unfolding_all rfl); k_whole)
    | (refine' st_item (j := 2) ?k1 ?k2 ?k3 ?k4 ?k5 ?k6 ?k8 ?_ ?k7; (case k5 => exact rfl); (case k8 => exact ⟨_, rfl⟩); (case k1 => k_asm); (case k2 => k_asm); (case k3 => ksw_less); (case k4 => ksw_less); (case k6 => decide); (case k7 => with_unfolding_all rfl); k_whole)
    | (refine' st_item (j := 3) ?k1 ?k2 ?k3 ?k4 ?k5 ?k6 ?k8 ?_ ?k7; (case k5 => exact rfl); (case k8 => exact ⟨_, rfl⟩); (case k1 => k_asm); (case k2 => k_asm); (case k3 => ksw_less); (case k4 => ksw_less); (case k6 => decide); (case k7 => with_unfolding_all rfl); k_whole)); intro _)))
  (k_with "call ref" => ((k_here; ((first | (with_reducible show wpAny _ _ (call (Value.ref 225) _ _) _ _ _) | (with_reducible show wpAny _ _ (call (Value.ref 232) _ _) _ _ _)); refine Stop.out ?_))))
  exact trivial
section
theorem up_spec : ∀ (n : Nat) (hi a r : Int), 1 ≤ hi → hi ≤ r → r < hi * 2 ^ (n + 1) → ∃ j : Nat, j ≤ n ∧ upEnd n hi a r = (hi * 2 ^ j, a + j) ∧ hi * 2 ^ j ≤ r ∧ r < hi * 2 ^ (j + 1) ∧ upDecs n hi a r = (List.range j).map (fun i : Nat => (a + (i : Int), (1 : Int))) ++ [(a + (j : Int), 0)]
  | 0, hi, a, r, h1, h2, h3 => ⟨0, Nat.le_refl _, by simp [upEnd], by simpa using h2, h3, by simp [upDecs]⟩
  | n + 1, hi, a, r, h1, h2, h3 => by
    by_cases hr : r ≥ 2 * hi
    · have e := Int.pow_succ 2 (n + 1)
      obtain ⟨j, j1, j2, j3, j4, j5⟩ := up_spec n (hi * 2) (a + 1) r (by (first | lia | omega)) (by (first | lia | omega)) (by rw [Int.mul_assoc, Int.mul_comm 2, ← e]; exact h3)
      have e1 : ∀ j : Nat, hi * 2 * 2 ^ j = hi * 2 ^ (j + 1) := fun j => by rw [Int.pow_succ, Int.mul_assoc, Int.mul_comm 2]
      rw [e1] at j2 j3
      rw [e1] at j4
      have g := upDecs_go (n := n) (a := a) hr
      refine ⟨j + 1, by (first | lia | omega), ?_, j3, j4, ?_⟩
      · rw [g.2, j2]; congr 1; push_cast; (first | lia | omega)
      · rw [g.1, j5, List.range_succ_eq_map]
        simp only [List.map_cons, List.map_map, List.cons_append]
        congr 1
        · simp
        · congr 1
          · apply List.map_congr_left
            intro i _
            simp only [Function.comp]
            congr 1
            push_cast
            (first | lia | omega)
          · congr 2
            push_cast
            (first | lia | omega)
    · have g := upDecs_stop (n := n + 1) (a := a) hr
      exact ⟨0, Nat.zero_le _, by rw [g.2]; simp, by simpa using h2, by simp; (first | lia | omega), by rw [g.1]; simp⟩
/-- a number's bits -/
structure Bits (rest : Int) (m : Nat) : Prop where
  m1 : 1 ≤ m
  m2 : m ≤ 15
  lo : (2 : Int) ^ (m - 1) ≤ rest
  hi : rest < 2 ^ m
theorem size_spec {rest k : Int} (r0 : 0 < rest) (r1 : rest < 32768) : ∃ m : Nat, Bits rest m ∧ sizeEnd rest k = (2 ^ (m - 1), 19 + (m : Int)) ∧
    sizeDecs rest k = (k, 1) :: ((List.range (m - 1)).map (fun i : Nat => (20 + (i : Int), (1 : Int))) ++ [(19 + (m : Int), 0)]) := by
  obtain ⟨j, j1, j2, j3, j4, j5⟩ := up_spec 15 1 20 rest (by decide) (by (first | lia | omega)) (by simp; (first | lia | omega))
  rw [Int.one_mul] at j2 j3 j4
  have hj : j ≤ 14 := by
    refine Nat.le_of_not_lt fun h => ?_
    have e7 : (2 : Int) ^ j = 2 ^ 15 * 2 ^ (j - 15) := by rw [← Int.pow_add]; congr 1; (first | lia | omega)
    have e8 : (0 : Int) < 2 ^ (j - 15) := Int.pow_pos (by decide)
    simp only [Int.reducePow] at e7
    (first | lia | omega)
  refine ⟨j + 1, ⟨by (first | lia | omega), by (first | lia | omega), by simpa using j3, j4⟩, ?_, ?_⟩
  · unfold sizeEnd; rw [if_pos r0, j2]; simp only [Nat.add_sub_cancel]; congr 1; push_cast; (first | lia | omega)
  · unfold sizeDecs; have e9 : (20 : Int) + (j : Int) = 19 + ((j + 1 : Nat) : Int) := by push_cast; (first | lia | omega)
    rw [if_pos r0, j5, e9]; simp only [Nat.add_sub_cancel]
end
section
theorem size_facts {rest k : Int} (k0 : 0 ≤ k) (k1 : k < 20) (r0 : 0 ≤ rest) (r1 : rest < 32768) : 0 ≤ (sizeEnd rest k).1 ∧ (sizeEnd rest k).1 < 65536 ∧ ((sizeEnd rest k).1 > 1 → 0 ≤ (sizeEnd rest k).2 + 14 ∧ (sizeEnd rest k).2 + 14 < 49) ∧ Decs (sizeDecs rest k) ∧ (sizeDecs rest k).length ≤ 17 := by
  by_cases h : 0 < rest
  · obtain ⟨m, B, e1, e2⟩ := size_spec (k := k) h r1
    have b1 := B.m1
    have b2 := B.m2
    have b3 := B.lo
    have p : (0 : Int) < 2 ^ (m - 1) := Int.pow_pos (by decide)
    rw [e1, e2]
    refine ⟨by dsimp only; (first | lia | omega), by dsimp only; (first | lia | omega), fun _ => ⟨by dsimp only; (first | lia | omega), by dsimp only; (first | lia | omega)⟩, ?_, by simp; (first | lia | omega)⟩
    intro d hd
    simp only [List.mem_cons, List.mem_append, List.mem_map, List.mem_range, List.not_mem_nil, or_false] at hd
    rcases hd with rfl | ⟨i, hi, rfl⟩ | rfl
    · dsimp only; (first | lia | omega)
    · dsimp only; (first | lia | omega)
    · dsimp only; (first | lia | omega)
  · have e : rest = 0 := by (first | lia | omega)
    subst e
    refine ⟨by simp [sizeEnd], by simp [sizeEnd], fun h => absurd h (by simp [sizeEnd]), ?_, by simp [sizeDecs]⟩
    intro d hd
    simp [sizeDecs] at hd
    subst hd
    dsimp only; (first | lia | omega)
end
section
section
variable {prog : Program} {w : World} {A A₀ : Around} {E : Value → Shared → Prop} {s : Shared} {K : Frag} {C L : Addr} {h₀ base : Heap} {m mg mb : Str → Option Value} {news : List (Addr × Obj)} {p : Program} {loose : List Str} {mean : ExcName → Option Value} {Q : Value → Shared → Prop}

theorem code_defCR {env : Env} {outer : List Env} {R : Result → Shared → Prop} {name qual : Str} {params : Arguments} {body : List Stmt} {scope : Scope} {dV kV doc pm cdv ct oc : Value} {an od : Option Addr} {osl : Array (Option Value)} {f : Addr} {args : Args} {binds : List (Str × Value)}
    (B : Below A₀ base outer h₀) (F : Fr h₀ L s.heap m) (X₀ : K.In h₀) (N : News h₀ L s.heap news) (T : Top p loose mean mg mb h₀) (hA : A.frames = some (env :: outer)) (hf : env.frame = some L) (hke : env.scope.kind = .function)
    (ho : K.lookup f = some ⟨oc, od, .func (fnOf name qual params body scope dV kV doc pm an cdv ct), osl⟩) (hcd : codeIn K cdv qual = true) (hroom : A.depth < recursionLimit)
    (hbind : BindsTo s (fnOf name qual params body scope dV kV doc pm an cdv ct) args binds) (hkind : (binds.all fun y => scope.names.lookup y.1 == some .local || scope.names.lookup y.1 == some .cell) = true)
    (hnd : ((cellsFrom 0 scope.names []).map (·.1)).Nodup)
    (h : ∀ g L' h₁ tk cells, Keeps (news.map (·.1)) s.heap g → Fr h₀ L g m → Fr g L' h₁ (bindL (envOfC qual scope L' f cdv).kindOf binds fun _ => none) → News g L' h₁ (cells ++ news) →
      CellsAre (bindC (envOfC qual scope L' f cdv).kindOf binds fun _ => none) (cellsFrom (L' + 1) scope.names []) cells → Below A base (env :: outer) g → K.In g → Top p loose mean mg mb g → (∀ p ∈ news, p.1 < L') →
      wpAny (model prog w) (A.deeper (envOfC qual scope L' f cdv)) (execs body (envOfC qual scope L' f cdv))
        (fun fl s' => LeaveK h₀ L m g R (match fl with | .ret v => v | _ => .none) s')
        (fun e s' => wpAny (model prog w) (A.deeper (envOfC qual scope L' f cdv)) (leaving (envOfC qual scope L' f cdv) e) (fun _ s'' => R (.error e) s'') (fun e' s'' => R (.error e') s'') s')
        { s with heap := h₁, toks := tk })
    (hco : scope.isCoroutine = false) (hgen : scope.isGenerator = false) (hk : scope.kind = .function) : codeAny (model prog w) A (.call (.ref f) args) R s := by
  obtain ⟨FG, BG, st, lv⟩ := groundX (R := R) B F N hA hf hke
  refine codeAny_call_function (fd := fnX name qual params body scope [] dV kV doc pm an cdv ct) hroom ((X₀.keeps F.keep) _ _ ho) rfl hco hgen rfl (codeRec_of (X₀.keeps F.keep) hcd) (hbind _ _ _ _ ?_)
  refine wpAny_newFunctionEnv_cells hk (kindsX hkind _) fun env' he s' x => ?_
  subst he
  refine ⟨(T.nolimit.keeps F.keep).keeps x.toInCall.keep, codeAny_func ?_⟩
  obtain ⟨h₁, tk, rfl, _⟩ := x.done
  have hk₁ := x.toInCall.keep
  obtain ⟨cells, NC, Y⟩ := Cl.news (h₀ := s.heap) (Nat.le_refl _) fun n c hm => ⟨x.cell n c (lookup_of_mem_nodup (cellsFrom_names scope.names 0 (s.heap.objs.size + 1) [] [] rfl ▸ hnd) hm), x.above n c hm⟩
  refine wpAny_mono (h _ s.heap.objs.size h₁ tk cells (fun b o e hb => hideAll_get _ e hb) FG ⟨x.toInCall.ns, fun b o e => hk₁ b o (of_hideAll _ e), Nat.le_of_eq (hideAll_size _ _)⟩ (fun p hp => ?_) Y BG (X₀.keeps st) (T.keeps st) (fun p hp => Heap.lt_size (N p hp).1)) (fun fl s' hl => lv _ _ hl) fun _ _ y => y
  rcases List.mem_append.mp hp with hp | hp
  · refine ⟨(NC p hp).1, (NC p hp).2.1, ?_⟩
    cases q : (hideAll s.heap (news.map (·.1))).get? p.1 with
    | none => rfl
    | some o => have := of_hideAll _ q; rw [(NC p hp).2.2] at this; cases this
  · exact ⟨hk₁ _ _ (N p hp).1, Nat.ne_of_lt (Heap.lt_size (N p hp).1), hideAll_none _ (List.mem_map_of_mem hp)⟩
end
end
section
noncomputable def bitsOf (rest : Int) : Int := (((rangeInts 0 1 16).filter fun a => decide ((2 : Int) ^ a.toNat ≤ rest)).length : Nat)
noncomputable abbrev frM {g h : Heap} {L : Addr} {m : Str → Option Value} (_ : Fr g L h m) : Str → Option Value := m
theorem reg_LBits_0 : True := by
  (k_with "eval ListComp" => (((with_reducible show wpAny _ _ (eval (Expr.ListComp _ [⟨_, Expr.Call (Expr.Name (Str.ofString "range") _) _ _ _, _, _⟩] _ _) _) _ _ _); refine Stop.out ?_)))
  exact trivial
set_option maxHeartbeats 4000000 in
theorem bits_ctr {prog : Program} {w : World} {mean : ExcName → Option Value} {mg mb : Str → Option Value} {rest : Int} {t : Tok} (r0 : 0 ≤ rest) (r1 : rest < 32768) :
    Ctr prog w mean mg mb 363 20 100 [.int rest t] [] (fun v B => ∃ u, v = .int (bitsOf rest) u ∧ B = []) := by
  intro dp un gd cn cs a ccd cl outer A₀ base h₀ L m s Q E B F X N T hk hd hu hret
  refine wpAny_call ?_
  k_dflt (refine' code_defCR ?k1 ?k2 ?k3 ?k4 ?k5 ?kA ?kF ?kK ?k6 ?k7 ?k8 ?k9 ?kB ?kD ?_ ?c2 ?c3 ?c4; (case kA => exact rfl); (case kF => exact rfl); (case kK => assumption); (case k1 => k_asm); (case k2 => k_asm); (case k3 => k_asm); (case k4 => k_asm); (case k5 => k_asm); (case k6 => k_is); (case k7 => k_is); (case k8 => exact Nat.lt_of_le_of_lt (Nat.le_add_right _ _) (by assumption)); (case k9 => exact BindsTo.of_eq rfl); (case kB => exact rfl); (case kD => decide +kernel); (case c2 => exact rfl); (case c3 => exact rfl); (case c4 => exact rfl); k_whole)
  intro g' L' h' tk' cells' KG' FG' F' N' Y' B' X' T' l1
  k_cells Y'
  try simp only [List.cons_append, List.nil_append] at N'
  try dsimp only
  first | (refine wpAny_folded ?_; intro M9 e9 A9; k_fold) | (refine wpC.folded ?_; intro M9 e9 A9 q9)
  k_steps
  refine Stop.mk ?_
  (with_reducible apply ListComp_DCr (h₀ := g') (L := L') (m := frM F') (pz := fun a => decide ((2 : Int) ^ a.toNat ≤ rest)) (d := fun a => PyData.int a)); (case hh => with_unfolding_all rfl); (case hclos => with_unfolding_all rfl); (case hcell => decide); (case hkind => with_unfolding_all rfl); (case hnames => decide); (case hx => with_unfolding_all rfl); (case hs => intro _; with_unfolding_all rfl); (case' h => with_reducible refine wpAny_rangePack ?_)
  dsimp only [frM]
  k_steps
  rename Fr h₀ L _ _ => kF
  rename Fr g' L' _ _ => FF
  rw [List.length_map]
  exact hret _ _ _ _ ⟨_, rfl, rfl⟩ kF News.nil (KG'.of_fr FF)
end
theorem off_LBits : True := by
  k_with_none
  (k_with "call builtin:len" => ((k_here; (with_reducible show wpAny _ _ (call (Value.builtin "len") [Value.ref _]) _ _ _); k_dflt (refine' ba_len ?k1 ?k2 ?k3 ?_; (case k1 => k_asm); (case k2 => k_mem); (case k3 => ksw_less); k_whole))))
  (k_with "subscriptTail" => ((k_here; (with_reducible show wpAny _ _ (subscriptTail _ _ (Value.ref _) (Value.int _ _)) _ _ _); k_dflt (refine' ba_item ?k1 ?k2 ?k3 ?k4 ?k5 ?k6 ?_ ?k7; (case k1 => k_asm); (case k2 => k_mem); (case k3 => with_reducible assumption); (case k4 => ksw_less); (case k5 => ksw_less); (case k6 => ksw_less); (case k7 => with_unfolding_all rfl); k_whole))))
  (k_with "subscriptTail" => ((k_here; (with_reducible show wpAny _ _ (subscriptTail _ _ (Value.ref _) (Value.int (-1) _)) _ _ _); k_dflt (refine' ba_last ?k1 ?k2 ?k3 ?k5 ?k6 ?_ ?k7; (case k1 => k_asm); (case k2 => k_mem); (case k3 => with_reducible assumption); (case k5 => ksw_less); (case k6 => ksw_less); (case k7 => with_unfolding_all rfl); k_whole))))
  (k_with "getItem ref int" => ((k_here; (with_reducible show wpAny _ _ (getItem (Value.ref _) (Value.int _ _)) _ _ _); k_dflt (refine' ba_get ?k1 ?k2 ?k3 ?k4 ?k5 ?k6 ?_; (case k1 => k_asm); (case k2 => k_mem); (case k3 => with_reducible assumption); (case k4 => ksw_less); (case k5 => ksw_less); (case k6 => ksw_less); k_whole))))
  (k_with "setItem ref int" => ((k_here; (with_reducible show wpAny _ _ (setItem (Value.ref _) (Value.int _ _) (Value.int _ _)) _ _ _); k_dflt (refine' BA.setItem ?k1 ?k2 ?k3 ?k4 ?k5 ?k6 ?k7 ?k8 ?_; (case k1 => k_asm); (case k2 => k_asm); (case k3 => k_upd); (case k4 => ksw_less); (case k5 => ksw_less); (case k6 => ksw_less); (case k7 => ksw_less); (case k8 => ksw_less); k_whole); intro h' F' N'; (try k_sweep))))
  (k_with "m_open" => ((
    (case kA => exact rfl); (case kF => exact rfl); (case kK => assumption); (case k1 => k_asm); (case k2 => k_asm); (case k3 => k_asm); (case k4 => k_asm); (case k5 => k_asm)
    (case k6 => k_is); (case k7 => k_is); (case k8 => first | exact Nat.lt_of_le_of_lt (Nat.le_add_right _ _) (by assumption) | (refine Nat.lt_of_le_of_lt (Nat.add_le_add_left ?_ _) (by assumption); exact Nat.le_of_ble_eq_true rfl)); (case k9 => first | exact BindsTo.of_eq rfl | exact binds_K (by k_in) rfl (by k_is) rfl rfl rfl); (case c5 => decide); (case kB => exact locs rfl); (case c2 => exact rfl); (case c3 => exact rfl); (case c4 => exact rfl); k_whole)))
  (k_with "m_start" => (((try dsimp only); refine wpC.consL ?_; k_steps; all_goals (try k_fold))))
  (k_with "exec While Compare cons nil" => ((k_here; refine Stop.out ?_)))
  (k_with "exec While BoolOp cons nil" => ((k_here; refine Stop.out ?_)))
  (k_with "getMethod ref" => ((k_here; k_dflt (first
    | (refine' ba_method ?k1 ?k2 BA.slot_append BA.type_append ?_; (case k1 => k_asm); (case k2 => k_mem); k_whole)
    | (refine' ba_method ?k1 ?k2 BA.slot_pop BA.type_pop ?_; (case k1 => k_asm); (case k2 => k_mem); k_whole)))))
  (k_with "subscriptTail" => ((k_here; (with_reducible show wpAny _ _ (subscriptTail _ _ (Value.ref 196) (Value.int _ _)) _ _ _); k_dflt (refine' st_row ?k1 ?k2 ?k3 ?k4 ?_ ?k7; (case k1 => k_asm); (case k2 => k_asm); (case k3 => ksw_less); (case k4 => ksw_less); (case k7 => with_unfolding_all rfl); k_whole))))
  (k_with "subscriptTail" => ((k_here; (with_reducible show wpAny _ _ (subscriptTail _ _ (Value.ref (82 + Int.toNat _)) (Value.int _ _)) _ _ _); k_dflt (first
    | (refine' st_item (j := 0) ?k1 ?k2 ?k3 ?k4 ?k5 ?k6 ?k8 ?_ ?k7; (case k5 => exact rfl); (case k8 => exact ⟨_, rfl⟩); (case k1 => k_asm); (case k2 => k_asm); (case k3 => ksw_less); (case k4 => ksw_less); (case k6 => decide); (case k7 => with_unfolding_all rfl); k_whole)
    | (refine' st_item (j := 1) ?k1 ?k2 ?k3 ?k4 ?k5 ?k6 ?k8 ?_ ?k7; (case k5 => exact rfl); (case k8 => exact ⟨_, rfl⟩); (case k1 => k_asm); (case k2 => k_asm); (case k3 => ksw_less); (case k4 => ksw_less); (case k6 => decide); (case k7 => with_unfolding_all rfl); k_whole)
    | (refine' st_item (j := 2) ?k1 ?k2 ?k3 ?k4 ?k5 ?k6 ?k8 ?_ ?k7; (case k5 => exact rfl); (case k8 => exact ⟨_, rfl⟩); (case k1 => k_asm); (case k2 => k_asm); (case k3 => ksw_less); (case k4 => ksw_less); (case k6 => decide); (case k7 => with_unfolding_all rfl); k_whole)
    | (refine' st_item (j := 3) ?k1 ?k2 ?k3 ?k4 ?k5 ?k6 ?k8 ?_ ?k7; (case k5 => exact rfl); (case k8 => exact ⟨_, rfl⟩); (case k1 => k_asm); (case k2 => k_asm); (case k3 => ksw_less); (case k4 => ksw_less); (case k6 => decide); (case k7 => with_unfolding_all rfl); k_whole)); intro _)))
  (k_with "call ref" => ((k_here; ((first | (with_reducible show wpAny _ _ (call (Value.ref 225) _ _) _ _ _) | (with_reducible show wpAny _ _ (call (Value.ref 232) _ _) _ _ _)); refine Stop.out ?_))))
  exact trivial
section
theorem pow2_mono {i j : Nat} (h : i ≤ j) : (2 : Int) ^ i ≤ 2 ^ j := by
  have e7 : (2 : Int) ^ j = 2 ^ i * 2 ^ (j - i) := by rw [← Int.pow_add]; congr 1; (first | lia | omega)
  have e8 : (0 : Int) < 2 ^ (j - i) := Int.pow_pos (by decide)
  have e9 : (0 : Int) < 2 ^ i := Int.pow_pos (by decide)
  have := Int.mul_le_mul_of_nonneg_left (show (1 : Int) ≤ 2 ^ (j - i) by (first | lia | omega)) (Int.le_of_lt e9)
  rw [e7]
  (first | lia | omega)
theorem cnt_filter (p : Nat → Bool) : ∀ (n m : Nat), m ≤ n → (∀ i, i < n → (p i = true ↔ i < m)) → ((List.range n).filter p).length = m
  | 0, m, h, _ => by simp; (first | lia | omega)
  | n + 1, m, h, hp => by
    rw [List.range_succ, List.filter_append, List.length_append]
    by_cases hm : m ≤ n
    · have h1 : p n = false := by
        cases e : p n with
        | false => rfl
        | true => have := (hp n (by (first | lia | omega))).mp e; (first | lia | omega)
      rw [cnt_filter p n m hm (fun i hi => hp i (by (first | lia | omega)))]
      simp [h1]
    · have e : m = n + 1 := by (first | lia | omega)
      have h1 : p n = true := (hp n (by (first | lia | omega))).mpr (by (first | lia | omega))
      rw [cnt_filter p n n (Nat.le_refl _) (fun i hi => by rw [hp i (by (first | lia | omega))]; (first | lia | omega))]
      simp [h1, e]
theorem bitsOf_eq {rest : Int} {m : Nat} (hm : m ≤ 15) (hp : ∀ i : Nat, i < 16 → ((2 : Int) ^ i ≤ rest ↔ i < m)) : bitsOf rest = m := by
  unfold bitsOf
  have e : rangeInts 0 1 16 = (List.range 16).map (fun i : Nat => (i : Int)) := by decide +kernel
  rw [e, List.filter_map, List.length_map]
  have := cnt_filter ((fun a : Int => decide ((2 : Int) ^ a.toNat ≤ rest)) ∘ fun i : Nat => (i : Int)) 16 m (by (first | lia | omega)) (fun i hi => by
    simp only [Function.comp, Int.toNat_natCast, decide_eq_true_eq]
    exact hp i hi)
  rw [this]
theorem Bits.many {rest : Int} {m : Nat} (b : Bits rest m) : bitsOf rest = m := bitsOf_eq b.m2 fun i _ => by
  constructor
  · intro h
    refine Nat.lt_of_not_le fun q => ?_
    have := pow2_mono q
    have := b.hi
    (first | lia | omega)
  · intro h
    have := pow2_mono (show i ≤ m - 1 by (first | lia | omega))
    have := b.lo
    (first | lia | omega)
theorem bits_zero : bitsOf 0 = 0 := bitsOf_eq (m := 0) (by decide) fun i _ => by
  have : (0 : Int) < 2 ^ i := Int.pow_pos (by decide)
  (first | lia | omega)
/-- what the law says of put_size's and get_size's answer -/
theorem size_said {rest k : Int} (r0 : 0 ≤ rest) (r1 : rest < 32768) : (sizeEnd rest k).1 = Int.fdiv (2 ^ (bitsOf rest).toNat) 2 ∧ (sizeEnd rest k).2 = if bitsOf rest > 0 then 19 + bitsOf rest else k := by
  by_cases h : 0 < rest
  · obtain ⟨m, B, e1, _⟩ := size_spec (k := k) h r1
    have b1 := B.m1
    rw [e1, B.many]
    dsimp only
    rw [Int.toNat_natCast, if_pos (by (first | lia | omega)), Int.fdiv_eq_ediv_of_nonneg _ (by decide)]
    refine ⟨?_, rfl⟩
    have : (2 : Int) ^ m = 2 ^ (m - 1) * 2 := by rw [← Int.pow_succ]; congr 1; (first | lia | omega)
    rw [this]
    (first | lia | omega)
  · have e : rest = 0 := by (first | lia | omega)
    subst e
    rw [bits_zero]
    exact ⟨by simp [sizeEnd], by simp [sizeEnd]⟩
theorem bitsOf_le {rest : Int} (r0 : 0 ≤ rest) (r1 : rest < 32768) : 0 ≤ bitsOf rest ∧ bitsOf rest ≤ 15 := by
  by_cases h : 0 < rest
  · obtain ⟨m, B, _⟩ := size_spec (k := 0) h r1
    rw [B.many]
    have := B.m2
    (first | lia | omega)
  · have e : rest = 0 := by (first | lia | omega)
    subst e
    rw [bits_zero]
    decide
end
section
theorem reg_LIsPut_0 : True := by
  (k_with "call ref" => ((k_here; (with_reducible show wpAny _ _ (call (Value.ref 363) _ _) _ _ _); refine Stop.out ?_)))
  exact trivial
set_option maxHeartbeats 8000000 in
theorem isput_ctr {prog : Program} {w : World} {mean : ExcName → Option Value} {mg mb : Str → Option Value} {c : EncAt} {x : Enc} {t1 t2 t3 : Tok} {d : BinAt} {b : Bin} {vs ws : List Value} {n1 n2 n : Nat} {k rest : Int} {t u : Tok}
    (o : apart c d) (hg : Good n x b) (hn : n ≤ 70000) (hv : IntsAre vs b.ss) (hw : IntsAre ws b.es) (k0 : 0 ≤ k) (k1 : k < 20) (r0 : 0 ≤ rest) (r1 : rest < 32768) :
    CtrC prog w mean mg mb 382 100 2000 [.ref c.e, .ref d.e, .int rest u, .int k t] (bothL c x t1 t2 t3 d vs ws n1 n2)
      (BothR (.bool true) c d (encRun (x, b) (sizeDecs rest k ++ bitDecs 15 (sizeEnd rest k).1 ((sizeEnd rest k).2 + 14) rest))) := by
  intro dp un gd cn cs a ccd cl outer A₀ base h₀ L m s Q B F X N T hk hd hu hret
  refine .call ?_
  k_dflt (refine' codeC.code_def ?k1 ?k2 ?k3 ?k4 ?k5 ?kA ?kF ?kK ?k6 ?k7 ?k8 ?k9 ?kB ?_ ?c2 ?c3 ?c4 ?c5; k_extra "m_open")
  intro g' L' h' KG' FG' F' N' B' X' T' lN'
  try dsimp only
  try k_fold
  refine .execs_cons (.AssignTuple (.CallName ?_))
  k_steps
  k_dflt (refine' .callWith_KL (K := Mine.hd.heap_39 w.params) ?k1 ?_; (case k1 => k_is); k_whole)
  k_steps
  rename Fr g' L' _ _ => FF
  rename News g' L' _ _ => NN
  have hC := fun t u v => psize_ctr (prog := prog) (w := w) (mean := mean) (mg := mg) (mb := mb) (c := c) (x := x) (t1 := t1) (t2 := t2) (t3 := t3) (d := d) (b := b) (vs := vs) (ws := ws) (n1 := n1) (n2 := n2) (n := n) (k := k) (rest := rest) (t := t) (u := u) (v := v) o hg (by (first | lia | omega)) hv hw k0 (by (first | lia | omega)) r0 r1
  k_dflt (refine' CtrC.use (hC _ _ _) ?k1 ?k2 ?k3 ?k4 ?k5 ?k6 ?k7 ?k8 ?_; (case k1 => k_asm); (case k2 => exact FF); (case k3 => k_asm); (case k4 => exact NN); (case k5 => k_asm); (case k6 => exact rfl); (case k7 => exact bnd2 1 60 hd rfl); (case k8 => exact bnd2 3 1000 hu rfl))
  clear hC
  rintro _ _ h2 tk2 ⟨p, ta, tb, w1, w2, w3, vs2, ws2, m1, m2, rfl, hv2, hw2, rfl⟩ F2 N2 K2
  clear NN FF
  k_steps
  have hz := size_facts k0 k1 r0 r1
  have hg2 := (hg.run hz.2.2.2.1).up (n' := n + 16 * 17) (by have := hz.2.2.2.2; (first | lia | omega))
  refine .execs_cons (.Expr (.CallName ?_))
  k_steps
  k_dflt (refine' .callWith_KL (K := Mine.hd.heap_39 w.params) ?k1 ?_; (case k1 => k_is); k_whole)
  k_steps
  rename Fr g' L' _ _ => FF
  rename News g' L' _ _ => NN
  have NP : News g' L' _ (bothL c (encRun (x, b) (sizeDecs rest k)).1 w1 w2 w3 d vs2 ws2 m1 m2) := News.perm NN (fun p hp => .tail _ hp)
  have hC := fun t u v => pbits_ctr (prog := prog) (w := w) (mean := mean) (mg := mg) (mb := mb) (c := c) (x := (encRun (x, b) (sizeDecs rest k)).1) (t1 := w1) (t2 := w2) (t3 := w3) (d := d) (b := (encRun (x, b) (sizeDecs rest k)).2) (vs := vs2) (ws := ws2) (n1 := m1) (n2 := m2) (n := n + 16 * 17) (k := (sizeEnd rest k).2 + 14) (high := (sizeEnd rest k).1) (rest := rest) (t := t) (u := u) (v := v) o hg2 (by (first | lia | omega)) hv2 hw2 (fun h => (hz.2.2.1 h).1) (fun h => (hz.2.2.1 h).2) r0 hz.1 hz.2.1
  k_dflt (refine' CtrC.use (hC _ _ _) ?k1 ?k2 ?k3 ?k4 ?k5 ?k6 ?k7 ?k8 ?_; (case k1 => k_asm); (case k2 => exact FF); (case k3 => k_asm); (case k4 => exact NP); (case k5 => k_asm); (case k6 => exact rfl); (case k7 => exact bnd2 1 60 hd rfl); (case k8 => exact bnd2 3 1000 hu rfl))
  clear hC
  rintro _ _ h3 tk3 ⟨w1, w2, w3, vs3, ws3, m1, m2, rfl, hv3, hw3, rfl⟩ F3 N3 K3
  clear NN FF NP
  dsimp only
  k_extra "m_start"
  refine Stop.mk ?_
  rename Fr g' L' _ _ => FF
  rename News g' L' _ _ => NN
  have hC := fun t => bits_ctr (prog := prog) (w := w) (mean := mean) (mg := mg) (mb := mb) (rest := rest) (t := t) r0 r1
  k_dflt (refine' Ctr.use (hC _) ?k1 ?k2 ?k3 ?k4 ?k5 ?k6 ?k7 ?k8 ?_; (case k1 => k_asm); (case k2 => exact FF); (case k3 => k_asm); (case k4 => exact News.nil); (case k5 => k_asm); (case k6 => exact rfl); (case k7 => exact bnd2 1 20 hd rfl); (case k8 => exact bnd2 3 100 hu rfl))
  clear hC
  rintro _ _ h4 tk4 ⟨u4, rfl, rfl⟩ F4 N4 K4
  have N5 := news_after (A := []) NN N4 K4 (fun p hp => .inr ⟨hp, by simp⟩)
  clear NN N4 FF
  have hM := bitsOf_le r0 r1
  obtain ⟨hS1, hS2⟩ := size_said (k := k) r0 r1
  k_steps
  refine .consL ?_
  k_steps
  all_goals (rename News h₀ L _ _ => kN; rename Fr h₀ L _ _ => kF; rename Fr g' L' _ _ => F8)
  · rename 0 < bitsOf rest => hb
    rw [if_pos hb] at hS2
    have e : ((sizeEnd rest k).1 == Int.fdiv (2 ^ (bitsOf rest).toNat) 2 && (sizeEnd rest k).2 == 19 + bitsOf rest) = true := by rw [hS1, hS2]; simp
    rw [e]
    rw [encRun_append] at hret
    exact hret _ _ _ _ ⟨w1, w2, w3, vs3, ws3, m1, m2, rfl, hv3, hw3, rfl⟩ kF (News.perm kN (fun q hq => by repeat (first | exact hq | refine List.Mem.tail _ ?_))) (KG'.of_fr F8)
  · rename ¬ 0 < bitsOf rest => hb
    rw [if_neg hb] at hS2
    have e : ((sizeEnd rest k).1 == Int.fdiv (2 ^ (bitsOf rest).toNat) 2 && (sizeEnd rest k).2 == k) = true := by rw [hS1, hS2]; simp
    rw [e]
    rw [encRun_append] at hret
    exact hret _ _ _ _ ⟨w1, w2, w3, vs3, ws3, m1, m2, rfl, hv3, hw3, rfl⟩ kF (News.perm kN (fun q hq => by repeat (first | exact hq | refine List.Mem.tail _ ?_))) (KG'.of_fr F8)
end
theorem off_LIsPut : True := by
  k_with_none
  (k_with "call builtin:len" => ((k_here; (with_reducible show wpAny _ _ (call (Value.builtin "len") [Value.ref _]) _ _ _); k_dflt (refine' ba_len ?k1 ?k2 ?k3 ?_; (case k1 => k_asm); (case k2 => k_mem); (case k3 => ksw_less); k_whole))))
  (k_with "subscriptTail" => ((k_here; (with_reducible show wpAny _ _ (subscriptTail _ _ (Value.ref _) (Value.int _ _)) _ _ _); k_dflt (refine' ba_item ?k1 ?k2 ?k3 ?k4 ?k5 ?k6 ?_ ?k7; (case k1 => k_asm); (case k2 => k_mem); (case k3 => with_reducible assumption); (case k4 => ksw_less); (case k5 => ksw_less); (case k6 => ksw_less); (case k7 => with_unfolding_all rfl); k_whole))))
  (k_with "subscriptTail" => ((k_here; (with_reducible show wpAny _ _ (subscriptTail _ _ (Value.ref _) (Value.int (-1) _)) _ _ _); k_dflt (refine' ba_last ?k1 ?k2 ?k3 ?k5 ?k6 ?_ ?k7; (case k1 => k_asm); (case k2 => k_mem); (case k3 => with_reducible assumption); (case k5 => ksw_less); (case k6 => ksw_less); (case k7 => with_unfolding_all rfl); k_whole))))
  (k_with "getItem ref int" => ((k_here; (with_reducible show wpAny _ _ (getItem (Value.ref _) (Value.int _ _)) _ _ _); k_dflt (refine' ba_get ?k1 ?k2 ?k3 ?k4 ?k5 ?k6 ?_; (case k1 => k_asm); (case k2 => k_mem); (case k3 => with_reducible assumption); (case k4 => ksw_less); (case k5 => ksw_less); (case k6 => ksw_less); k_whole))))
  (k_with "setItem ref int" => ((k_here; (with_reducible show wpAny _ _ (setItem (Value.ref _) (Value.int _ _) (Value.int _ _)) _ _ _); k_dflt (refine' BA.setItem ?k1 ?k2 ?k3 ?k4 ?k5 ?k6 ?k7 ?k8 ?_; (case k1 => k_asm); (case k2 => k_asm); (case k3 => k_upd); (case k4 => ksw_less); (case k5 => ksw_less); (case k6 => ksw_less); (case k7 => ksw_less); (case k8 => ksw_less); k_whole); intro h' F' N'; (try k_sweep))))
  (k_with "m_open" => ((
    (case kA => exact rfl); (case kF => exact rfl); (case kK => assumption); (case k1 => k_asm); (case k2 => k_asm); (case k3 => k_asm); (case k4 => k_asm); (case k5 => k_asm)
    (case k6 => k_is); (case k7 => k_is); (case k8 => first | exact Nat.lt_of_le_of_lt (Nat.le_add_right _ _) (by assumption) | (refine Nat.lt_of_le_of_lt (Nat.add_le_add_left ?_ _) (by assumption); exact Nat.le_of_ble_eq_true rfl)); (case k9 => first | exact BindsTo.of_eq rfl | exact binds_K (by k_in) rfl (by k_is) rfl rfl rfl); (case c5 => decide); (case kB => exact locs rfl); (case c2 => exact rfl); (case c3 => exact rfl); (case c4 => exact rfl); k_whole)))
  (k_with "m_start" => (((try dsimp only); refine wpC.consL ?_; k_steps; all_goals (try k_fold))))
  (k_with "exec While Compare cons nil" => ((k_here; refine Stop.out ?_)))
  (k_with "exec While BoolOp cons nil" => ((k_here; refine Stop.out ?_)))
  (k_with "getMethod ref" => ((k_here; k_dflt (first
    | (refine' ba_method ?k1 ?k2 BA.slot_append BA.type_append ?_; (case k1 => k_asm); (case k2 => k_mem); k_whole)
    | (refine' ba_method ?k1 ?k2 BA.slot_pop BA.type_pop ?_; (case k1 => k_asm); (case k2 => k_mem); k_whole)))))
  (k_with "subscriptTail" => ((k_here; (with_reducible show wpAny _ _ (subscriptTail _ _ (Value.ref 196) (Value.int _ _)) _ _ _); k_dflt (refine' st_row ?k1 ?k2 ?k3 ?k4 ?_ ?k7; (case k1 => k_asm); (case k2 => k_asm); (case k3 => ksw_less); (case k4 => ksw_less); (case k7 => with_unfolding_all rfl); k_whole))))
  (k_with "subscriptTail" => ((k_here; (with_reducible show wpAny _ _ (subscriptTail _ _ (Value.ref (82 + Int.toNat _)) (Value.int _ _)) _ _ _); k_dflt (first
    | (refine' st_item (j := 0) ?k1 ?k2 ?k3 ?k4 ?k5 ?k6 ?k8 ?_ ?k7; (case k5 => exact rfl); (case k8 => exact ⟨_, rfl⟩); (case k1 => k_asm); (case k2 => k_asm); (case k3 => ksw_less); (case k4 => ksw_less); (case k6 => decide); (case k7 => with_unfolding_all rfl); k_whole)
    | (refine' st_item (j := 1) ?k1 ?k2 ?k3 ?k4 ?k5 ?k6 ?k8 ?_ ?k7; (case k5 => exact rfl); (case k8 => exact ⟨_, rfl⟩); (case k1 => k_asm); (case k2 => k_asm); (case k3 => ksw_less); (case k4 => ksw_less); (case k6 => decide); (case k7 => with_unfolding_all rfl); k_whole)
    | (refine' st_item (j := 2) ?k1 ?k2 ?k3 ?k4 ?k5 ?k6 ?k8 ?_ ?k7; (case k5 => exact rfl); (case k8 => exact ⟨_, rfl⟩); (case k1 => k_asm); (case k2 => k_asm); (case k3 => ksw_less); (case k4 => ksw_less); (case k6 => decide); (case k7 => with_unfolding_all rfl); k_whole)
    | (refine' st_item (j := 3) ?k1 ?k2 ?k3 ?k4 ?k5 ?k6 ?k8 ?_ ?k7; (case k5 => exact rfl); (case k8 => exact ⟨_, rfl⟩); (case k1 => k_asm); (case k2 => k_asm); (case k3 => ksw_less); (case k4 => ksw_less); (case k6 => decide); (case k7 => with_unfolding_all rfl); k_whole)); intro _)))
  (k_with "call ref" => ((k_here; ((first | (with_reducible show wpAny _ _ (call (Value.ref 225) _ _) _ _ _) | (with_reducible show wpAny _ _ (call (Value.ref 232) _ _) _ _ _)); refine Stop.out ?_))))
  exact trivial
section
section
variable {M : Model} {A : Around} {E : Value → Shared → Prop} {s : Shared} {env : Env}
theorem wpC.CompareV {l op r pos} {Q : Value → Shared → Prop}
    (h : wpC M A (eval l env) (fun a s₁ => wpC M A (eval r env) (fun b s₂ => wpAny M A (compareOp op a b) Q E s₂) E s₁) E s)
    (hm : markedBehindIn op r (eval r env) = eval r env := by rfl) : wpC M A (eval (.Compare l [op] [r] pos) env) Q E s := by
  have e : eval (.Compare l [op] [r] pos) env = (do let a ← eval l env; let b ← PySem.holding [a] (markedBehindIn op r (eval r env)); PySem.standAt pos; operate [a, b] (compareOp op a b)) := rfl
  rw [e, hm]
  refine .bind (h.mono (fun a s₁ h₁ => .bind (.holding (h₁.mono (fun b s₂ h₂ => .standAt (.of ?_)) fun _ _ x => x))) fun _ _ x => x)
  exact fun Γ p hΓ => by rw [Sem.wp_operate]; exact h₂ Γ p hΓ
end
end
section
inductive ReadR (c : DecAt) (d : BinAt) (y : Dec) (b : Bin) (v : Value) (B : List (Addr × Obj)) : Prop
  | mk : ∀ t1 t2 t3 t4 vs ws n1 n2, v = .bool true → IntsAre vs b.ss → IntsAre ws b.es → B = dbothL c y t1 t2 t3 t4 d vs ws n1 n2 → ReadR c d y b v B
theorem getUp_good {octs : List Int} : ∀ (n : Nat) (y : Dec) (b : Bin) (hi a : Int) (y' : Dec) (b' : Bin) (hi' a' : Int), DGood octs y b → 0 ≤ a → a + n ≤ 49 → getUp n y b hi a = some (y', b', hi', a') → DGood octs y' b'
  | 0, _, _, _, _, _, _, _, _, _, _, _, h => by cases h
  | n + 1, y, b, hi, a, y', b', hi', a', g, h0, h1, h => by
    have g2 := g.get h0 (show a < 49 by (first | lia | omega))
    rw [getUp] at h
    split at h
    · split at h
      · cases h
      · exact getUp_good n _ _ _ _ _ _ _ _ g2.1 (by (first | lia | omega)) (by (first | lia | omega)) h
    · have := Option.some.inj h
      simp only [Prod.mk.injEq] at this
      obtain ⟨rfl, rfl, _, _⟩ := this
      exact g2.1
theorem getSize_good {octs : List Int} {y : Dec} {b : Bin} {k : Int} {y' : Dec} {b' : Bin} {hi' a' : Int} (g : DGood octs y b) (k0 : 0 ≤ k) (k1 : k < 49) (h : getSize y b k = some (y', b', hi', a')) : DGood octs y' b' := by
  have g2 := g.get k0 k1
  unfold getSize at h
  split at h
  · have := Option.some.inj h
    simp only [Prod.mk.injEq] at this
    obtain ⟨rfl, rfl, _, _⟩ := this
    exact g2.1
  · exact getUp_good 16 _ _ _ _ _ _ _ _ g2.1 (by decide) (by decide) h
theorem reg_LIsRead_0 : True := by
  (k_with "call ref" => ((k_here; (with_reducible show wpAny _ _ (call (Value.ref 363) _ _) _ _ _); refine Stop.out ?_)))
  exact trivial
set_option maxHeartbeats 8000000 in
theorem isread_ctr {prog : Program} {w : World} {mean : ExcName → Option Value} {mg mb : Str → Option Value} {c : DecAt} {y y1 y2 : Dec} {t1 t2 t3 t4 : Tok} {d : BinAt} {b b1 b2 : Bin} {vs ws : List Value} {n1 n2 : Nat} {k rest : Int} {t u : Tok} {octs : List Int}
    (o : dapart c d) (hg : DGood octs y b) (hv : IntsAre vs b.ss) (hw : IntsAre ws b.es) (k0 : 0 ≤ k) (k1 : k < 20) (r0 : 0 ≤ rest) (r1 : rest < 32768)
    (hr : getSize y b k = some (y1, b1, (sizeEnd rest k).1, (sizeEnd rest k).2)) (hb : getBits 15 y1 b1 ((sizeEnd rest k).2 + 14) (sizeEnd rest k).1 (sizeEnd rest k).1 = (y2, b2, rest)) :
    CtrC prog w mean mg mb 389 100 2000 [.ref c.e, .ref d.e, .int rest u, .int k t] (dbothL c y t1 t2 t3 t4 d vs ws n1 n2)
      (ReadR c d y2 b2) := by
  intro dp un gd cn cs a ccd cl outer A₀ base h₀ L m s Q B F X N T hk hd hu hret
  have hz := size_facts k0 k1 r0 r1
  have hg1 := getSize_good hg k0 (by (first | lia | omega)) hr
  refine .call ?_
  k_dflt (refine' codeC.code_def ?k1 ?k2 ?k3 ?k4 ?k5 ?kA ?kF ?kK ?k6 ?k7 ?k8 ?k9 ?kB ?_ ?c2 ?c3 ?c4 ?c5; k_extra "m_open")
  intro g' L' h' KG' FG' F' N' B' X' T' lN'
  try dsimp only
  try k_fold
  refine .execs_cons (.AssignTuple (.CallName ?_))
  k_steps
  k_dflt (refine' .callWith_KL (K := Mine.hd.heap_39 w.params) ?k1 ?_; (case k1 => k_is); k_whole)
  k_steps
  rename Fr g' L' _ _ => FF
  rename News g' L' _ _ => NN
  have hC := fun t u => gsize_ctr (prog := prog) (w := w) (mean := mean) (mg := mg) (mb := mb) (c := c) (y := y) (t1 := t1) (t2 := t2) (t3 := t3) (t4 := t4) (d := d) (b := b) (vs := vs) (ws := ws) (n1 := n1) (n2 := n2) (k := k) (t := t) (u := u) o hg hv hw k0 (by (first | lia | omega)) hr
  k_dflt (refine' CtrC.use (hC _ _) ?k1 ?k2 ?k3 ?k4 ?k5 ?k6 ?k7 ?k8 ?_; (case k1 => k_asm); (case k2 => exact FF); (case k3 => k_asm); (case k4 => exact NN); (case k5 => k_asm); (case k6 => exact rfl); (case k7 => exact bnd2 1 60 hd rfl); (case k8 => exact bnd2 3 1000 hu rfl))
  clear hC
  rintro _ _ h2 tk2 ⟨p, ta, tb, w1, w2, w3, w4, vs2, ws2, m1, m2, rfl, hv2, hw2, rfl⟩ F2 N2 K2
  clear NN FF
  k_steps
  k_extra "m_start"
  refine Stop.mk ?_
  rename Fr g' L' _ _ => FF
  rename News g' L' _ _ => NN
  have hC := fun t => bits_ctr (prog := prog) (w := w) (mean := mean) (mg := mg) (mb := mb) (rest := rest) (t := t) r0 r1
  k_dflt (refine' Ctr.use (hC _) ?k1 ?k2 ?k3 ?k4 ?k5 ?k6 ?k7 ?k8 ?_; (case k1 => k_asm); (case k2 => exact FF); (case k3 => k_asm); (case k4 => exact News.nil); (case k5 => k_asm); (case k6 => exact rfl); (case k7 => exact bnd2 1 20 hd rfl); (case k8 => exact bnd2 3 100 hu rfl))
  clear hC
  rintro _ _ h4 tk4 ⟨u4, rfl, rfl⟩ F4 N4 K4
  have N5 := news_after (A := []) NN N4 K4 (fun p hp => .inr ⟨hp, by simp⟩)
  clear NN N4 FF
  have hM := bitsOf_le r0 r1
  obtain ⟨hS1, hS2⟩ := size_said (k := k) r0 r1
  k_steps
  refine .consL ?_
  k_steps
  · rename 0 < bitsOf rest => hb9
    dsimp only
    refine .execs_cons (.Return (.CompareV (.CallName ?_)))
    k_steps
    k_dflt (refine' .callWith_KL (K := Mine.hd.heap_39 w.params) ?k1 ?_; (case k1 => k_is); k_whole)
    k_steps
    rename Fr g' L' _ _ => FF
    rename News g' L' _ _ => NN
    have NP : News g' L' _ (dbothL c y1 w1 w2 w3 w4 d vs2 ws2 m1 m2) := News.perm NN (fun q hq => by repeat (first | exact hq | refine List.Mem.tail _ ?_))
    have hC := fun t u => gbits_ctr (prog := prog) (w := w) (mean := mean) (mg := mg) (mb := mb) (c := c) (y := y1) (t1 := w1) (t2 := w2) (t3 := w3) (t4 := w4) (d := d) (b := b1) (vs := vs2) (ws := ws2) (n1 := m1) (n2 := m2) (k := (sizeEnd rest k).2 + 14) (high := (sizeEnd rest k).1) (t := t) (u := u) o hg1 hv2 hw2 (fun h => (hz.2.2.1 h).1) (fun h => (hz.2.2.1 h).2) hz.1 hz.2.1
    k_dflt (refine' CtrC.use (hC _ _) ?k1 ?k2 ?k3 ?k4 ?k5 ?k6 ?k7 ?k8 ?_; (case k1 => k_asm); (case k2 => exact FF); (case k3 => k_asm); (case k4 => exact NP); (case k5 => k_asm); (case k6 => exact rfl); (case k7 => exact bnd2 1 60 hd rfl); (case k8 => exact bnd2 3 1000 hu rfl))
    clear hC NP NN FF
    rw [hb]
    rintro _ _ h7 tk7 ⟨v7, w1, w2, w3, w4, vs3, ws3, m1, m2, rfl, hv3, hw3, rfl⟩ F7 N7 K7
    refine .of ?_
    k_steps
    rename News h₀ L _ _ => kN
    rename Fr h₀ L _ _ => kF
    rename Fr g' L' _ _ => F8
    have e9 : (rest == rest) = true := by simp
    rw [e9]
    exact hret _ _ _ _ ⟨w1, w2, w3, w4, vs3, ws3, m1, m2, rfl, hv3, hw3, rfl⟩ kF (News.perm kN (fun q hq => by repeat (first | exact hq | refine List.Mem.tail _ ?_))) (KG'.of_fr F8)
  · exfalso
    rename 0 < bitsOf rest => hb9
    rename _ = false => hb8
    rw [if_pos hb9] at hS2
    rw [hS1, hS2] at hb8
    simp at hb8
  · rename ¬ 0 < bitsOf rest => hb9
    dsimp only
    refine .execs_cons (.Return (.CompareV (.CallName ?_)))
    k_steps
    k_dflt (refine' .callWith_KL (K := Mine.hd.heap_39 w.params) ?k1 ?_; (case k1 => k_is); k_whole)
    k_steps
    rename Fr g' L' _ _ => FF
    rename News g' L' _ _ => NN
    have NP : News g' L' _ (dbothL c y1 w1 w2 w3 w4 d vs2 ws2 m1 m2) := News.perm NN (fun q hq => by repeat (first | exact hq | refine List.Mem.tail _ ?_))
    have hC := fun t u => gbits_ctr (prog := prog) (w := w) (mean := mean) (mg := mg) (mb := mb) (c := c) (y := y1) (t1 := w1) (t2 := w2) (t3 := w3) (t4 := w4) (d := d) (b := b1) (vs := vs2) (ws := ws2) (n1 := m1) (n2 := m2) (k := (sizeEnd rest k).2 + 14) (high := (sizeEnd rest k).1) (t := t) (u := u) o hg1 hv2 hw2 (fun h => (hz.2.2.1 h).1) (fun h => (hz.2.2.1 h).2) hz.1 hz.2.1
    k_dflt (refine' CtrC.use (hC _ _) ?k1 ?k2 ?k3 ?k4 ?k5 ?k6 ?k7 ?k8 ?_; (case k1 => k_asm); (case k2 => exact FF); (case k3 => k_asm); (case k4 => exact NP); (case k5 => k_asm); (case k6 => exact rfl); (case k7 => exact bnd2 1 60 hd rfl); (case k8 => exact bnd2 3 1000 hu rfl))
    clear hC NP NN FF
    rw [hb]
    rintro _ _ h7 tk7 ⟨v7, w1, w2, w3, w4, vs3, ws3, m1, m2, rfl, hv3, hw3, rfl⟩ F7 N7 K7
    refine .of ?_
    k_steps
    rename News h₀ L _ _ => kN
    rename Fr h₀ L _ _ => kF
    rename Fr g' L' _ _ => F8
    have e9 : (rest == rest) = true := by simp
    rw [e9]
    exact hret _ _ _ _ ⟨w1, w2, w3, w4, vs3, ws3, m1, m2, rfl, hv3, hw3, rfl⟩ kF (News.perm kN (fun q hq => by repeat (first | exact hq | refine List.Mem.tail _ ?_))) (KG'.of_fr F8)
  · exfalso
    rename ¬ 0 < bitsOf rest => hb9
    rename _ = false => hb8
    rw [if_neg hb9] at hS2
    rw [hS1, hS2] at hb8
    simp at hb8
end
theorem off_LIsRead : True := by
  k_with_none
  (k_with "call builtin:len" => ((k_here; (with_reducible show wpAny _ _ (call (Value.builtin "len") [Value.ref _]) _ _ _); k_dflt (refine' ba_len ?k1 ?k2 ?k3 ?_; (case k1 => k_asm); (case k2 => k_mem); (case k3 => ksw_less); k_whole))))
  (k_with "subscriptTail" => ((k_here; (with_reducible show wpAny _ _ (subscriptTail _ _ (Value.ref _) (Value.int _ _)) _ _ _); k_dflt (refine' ba_item ?k1 ?k2 ?k3 ?k4 ?k5 ?k6 ?_ ?k7; (case k1 => k_asm); (case k2 => k_mem); (case k3 => with_reducible assumption); (case k4 => ksw_less); (case k5 => ksw_less); (case k6 => ksw_less); (case k7 => with_unfolding_all rfl); k_whole))))
  (k_with "subscriptTail" => ((k_here; (with_reducible show wpAny _ _ (subscriptTail _ _ (Value.ref _) (Value.int (-1) _)) _ _ _); k_dflt (refine' ba_last ?k1 ?k2 ?k3 ?k5 ?k6 ?_ ?k7; (case k1 => k_asm); (case k2 => k_mem); (case k3 => with_reducible assumption); (case k5 => ksw_less); (case k6 => ksw_less); (case k7 => with_unfolding_all rfl); k_whole))))
  (k_with "getItem ref int" => ((k_here; (with_reducible show wpAny _ _ (getItem (Value.ref _) (Value.int _ _)) _ _ _); k_dflt (refine' ba_get ?k1 ?k2 ?k3 ?k4 ?k5 ?k6 ?_; (case k1 => k_asm); (case k2 => k_mem); (case k3 => with_reducible assumption); (case k4 => ksw_less); (case k5 => ksw_less); (case k6 => ksw_less); k_whole))))
  (k_with "setItem ref int" => ((k_here; (with_reducible show wpAny _ _ (setItem (Value.ref _) (Value.int _ _) (Value.int _ _)) _ _ _); k_dflt (refine' BA.setItem ?k1 ?k2 ?k3 ?k4 ?k5 ?k6 ?k7 ?k8 ?_; (case k1 => k_asm); (case k2 => k_asm); (case k3 => k_upd); (case k4 => ksw_less); (case k5 => ksw_less); (case k6 => ksw_less); (case k7 => ksw_less); (case k8 => ksw_less); k_whole); intro h' F' N'; (try k_sweep))))
  (k_with "m_open" => ((
    (case kA => exact rfl); (case kF => exact rfl); (case kK => assumption); (case k1 => k_asm); (case k2 => k_asm); (case k3 => k_asm); (case k4 => k_asm); (case k5 => k_asm)
    (case k6 => k_is); (case k7 => k_is); (case k8 => first | exact Nat.lt_of_le_of_lt (Nat.le_add_right _ _) (by assumption) | (refine Nat.lt_of_le_of_lt (Nat.add_le_add_left ?_ _) (by assumption); exact Nat.le_of_ble_eq_true rfl)); (case k9 => first | exact BindsTo.of_eq rfl | exact binds_K (by k_in) rfl (by k_is) rfl rfl rfl); (case c5 => decide); (case kB => exact locs rfl); (case c2 => exact rfl); (case c3 => exact rfl); (case c4 => exact rfl); k_whole)))
  (k_with "m_start" => (((try dsimp only); refine wpC.consL ?_; k_steps; all_goals (try k_fold))))
  (k_with "exec While Compare cons nil" => ((k_here; refine Stop.out ?_)))
  (k_with "exec While BoolOp cons nil" => ((k_here; refine Stop.out ?_)))
  (k_with "getMethod ref" => ((k_here; k_dflt (first
    | (refine' ba_method ?k1 ?k2 BA.slot_append BA.type_append ?_; (case k1 => k_asm); (case k2 => k_mem); k_whole)
    | (refine' ba_method ?k1 ?k2 BA.slot_pop BA.type_pop ?_; (case k1 => k_asm); (case k2 => k_mem); k_whole)))))
  (k_with "subscriptTail" => ((k_here; (with_reducible show wpAny _ _ (subscriptTail _ _ (Value.ref 196) (Value.int _ _)) _ _ _); k_dflt (refine' st_row ?k1 ?k2 ?k3 ?k4 ?_ ?k7; (case k1 => k_asm); (case k2 => k_asm); (case k3 => ksw_less); (case k4 => ksw_less); (case k7 => with_unfolding_all rfl); k_whole))))
  (k_with "subscriptTail" => ((k_here; (with_reducible show wpAny _ _ (subscriptTail _ _ (Value.ref (82 + Int.toNat _)) (Value.int _ _)) _ _ _); k_dflt (first
    | (refine' st_item (j := 0) ?k1 ?k2 ?k3 ?k4 ?k5 ?k6 ?k8 ?_ ?k7; (case k5 => exact rfl); (case k8 => exact ⟨_, rfl⟩); (case k1 => k_asm); (case k2 => k_asm); (case k3 => ksw_less); (case k4 => ksw_less); (case k6 => decide); (case k7 => with_unfolding_all rfl); k_whole)
    | (refine' st_item (j := 1) ?k1 ?k2 ?k3 ?k4 ?k5 ?k6 ?k8 ?_ ?k7; (case k5 => exact rfl); (case k8 => exact ⟨_, rfl⟩); (case k1 => k_asm); (case k2 => k_asm); (case k3 => ksw_less); (case k4 => ksw_less); (case k6 => decide); (case k7 => with_unfolding_all rfl); k_whole)
    | (refine' st_item (j := 2) ?k1 ?k2 ?k3 ?k4 ?k5 ?k6 ?k8 ?_ ?k7; (case k5 => exact rfl); (case k8 => exact ⟨_, rfl⟩); (case k1 => k_asm); (case k2 => k_asm); (case k3 => ksw_less); (case k4 => ksw_less); (case k6 => decide); (case k7 => with_unfolding_all rfl); k_whole)
    | (refine' st_item (j := 3) ?k1 ?k2 ?k3 ?k4 ?k5 ?k6 ?k8 ?_ ?k7; (case k5 => exact rfl); (case k8 => exact ⟨_, rfl⟩); (case k1 => k_asm); (case k2 => k_asm); (case k3 => ksw_less); (case k4 => ksw_less); (case k6 => decide); (case k7 => with_unfolding_all rfl); k_whole)); intro _)))
  (k_with "call ref" => ((k_here; ((first | (with_reducible show wpAny _ _ (call (Value.ref 225) _ _) _ _ _) | (with_reducible show wpAny _ _ (call (Value.ref 232) _ _) _ _ _)); refine Stop.out ?_))))
  exact trivial
section
noncomputable abbrev T5 := Addr × (Int × Tok) × (Int × Tok)
noncomputable abbrev tObj (t : T5) : Obj := tupV [.int t.2.1.1 t.2.1.2, .int t.2.2.1 t.2.2.2]
noncomputable abbrev tsL (ts : List T5) : List (Addr × Obj) := ts.map fun t => (t.1, tObj t)
noncomputable abbrev tsV (ts : List T5) : List Value := ts.map fun t => .ref t.1
noncomputable abbrev decsL (lst : Addr) (ts : List T5) (n : Nat) : List (Addr × Obj) := (lst, listOf (tsV ts).toArray n) :: tsL ts
noncomputable def tsD (ts : List T5) : List (Int × Int) := ts.map fun t => (t.2.1.1, t.2.2.1)
section
open PyProof.Rows.LCg
variable {prog : Program} {w : World} {A : Around} {E : Value → Shared → Prop} {s : Shared} {h₀ : Heap} {L : Addr} {m : Str → Option Value} {env : Env}

theorem turns_tups {elt : PySem.Expr} {x : Str} {scope : Scope} {cl : List (Str × Addr)} {f : Int → Int × Int} {a c : Int} {n : Nat} {news : List (Addr × Obj)} {Fin : List Value → List (Addr × Obj) → Prop} {s₂ : Shared}
    (helt : ∀ (i : Nat) (tv : Tok) (C : Addr) (m₂ : Str → Option Value) (s : Shared) (Q' E' : Value → Shared → Prop), i < n → s.heap.Ns C m₂ → m₂ x = some (.int (a + i * c) tv) → Fr h₀ L s.heap m → News h₀ L s.heap news →
      (∀ u1 u2 tk, wpAny (model prog w) A (newTuple [.int (f (a + i * c)).1 u1, .int (f (a + i * c)).2 u2]) Q' E' { s with toks := tk }) → wpAny (model prog w) A (eval elt (compEnvC scope cl C env)) Q' E' s)
    (hfin : ∀ ts : List T5, tsD ts = (List.range n).map (fun i : Nat => f (a + i * c)) → Fin (tsV ts) (tsL ts ++ news)) :
    ∀ (k i : Nat) (ts : List T5), i + k = n → tsD ts = (List.range i).map (fun i : Nat => f (a + i * c)) → CompRest prog w A h₀ L m env elt x scope cl s₂ (fun _ => True) (fun i v => i < n ∧ ∃ t, v = .int (a + i * c) t) Fin k i (tsV ts) (tsL ts ++ news)
  | 0, i, ts, hk, hd => .zero (hfin ts (by rw [hd]; congr 2))
  | k + 1, i, ts, hk, hd => by
    refine .succ ?_
    rintro v I oI C oC D m₂ h tk E' ⟨hi, tv, rfl⟩ hNs hx F N off ne
    refine helt i tv C m₂ _ _ E' hi (hNs.ns (N (C, oC) (by simp)).1) hx F (fun p hp => N p (by simp [hp])) fun u1 u2 tk' => ?_
    refine wpAny_newTuple ?_
    have lt : ∀ p ∈ (I, oI) :: (C, oC) :: (D, lst (tsV ts)) :: (tsL ts ++ news), @LT.lt Nat _ p.1 h.objs.size := fun p hp => Heap.lt_size (N p hp).1
    have e1 : tsL (ts ++ [(h.objs.size, ((f (a + i * c)).1, u1), ((f (a + i * c)).2, u2))]) = tsL ts ++ [(h.objs.size, tupV [.int (f (a + i * c)).1 u1, .int (f (a + i * c)).2 u2])] := by simp
    have e2 : tsV ts ++ [Value.ref h.objs.size] = tsV (ts ++ [(h.objs.size, ((f (a + i * c)).1, u1), ((f (a + i * c)).2, u2))]) := by simp
    refine CompEnd.intro (F.push _) (N.push F (tupV [.int (f (a + i * c)).1 u1, .int (f (a + i * c)).2 u2])) (tsL (ts ++ [(h.objs.size, ((f (a + i * c)).1, u1), ((f (a + i * c)).2, u2))]) ++ news) ?_ (Off3.of ?_) trivial ?_
    · intro p hp
      rw [e1] at hp
      simp only [List.mem_cons, List.mem_append, List.not_mem_nil, or_false] at hp ⊢
      rcases hp with h | h | h | (h | h) | h
      · exact .inr (.inl h)
      · exact .inr (.inr (.inl h))
      · exact .inr (.inr (.inr (.inl h)))
      · exact .inr (.inr (.inr (.inr (.inl h))))
      · exact .inl h
      · exact .inr (.inr (.inr (.inr (.inr h))))
    · intro p hp
      rw [e1] at hp
      simp only [List.mem_cons, List.mem_append, List.not_mem_nil, or_false] at hp
      have old := off.mem
      have l1 := lt (I, oI) (by simp)
      have l2 := lt (C, oC) (by simp)
      have l3 := lt (D, lst (tsV ts)) (by simp)
      rcases hp with (h | h) | h
      · exact old p (by simp [h])
      · subst h
        exact ⟨fun e => by have e' : @Eq Nat _ _ := e; dsimp only at e' l1; (first | lia | omega), fun e => by have e' : @Eq Nat _ _ := e; dsimp only at e' l2; (first | lia | omega), fun e => by have e' : @Eq Nat _ _ := e; dsimp only at e' l3; (first | lia | omega)⟩
      · exact old p (by simp [h])
    · rw [e2]
      refine turns_tups helt hfin k (i + 1) _ (by (first | lia | omega)) ?_
      unfold tsD at hd ⊢
      rw [List.map_append, hd, List.range_succ, List.map_append]
      rfl
end
end
section
/-- hidden from the walker -/
inductive Hid (P : Prop) : Prop
  | mk (h : P)
theorem Hid.out {P : Prop} (h : Hid P) : P := by cases h; assumption
theorem newsList {h₀ h : Heap} {L l : Addr} {vs : Array Value} {n : Nat} {news : List (Addr × Obj)} (N : News h₀ L h news) (hm : (l, listOf vs n) ∈ news) : h.IsList l vs := ⟨_, (N _ hm).1, rfl, _, rfl⟩
theorem newsTake2 {h₀ h : Heap} {L : Addr} {a b : Addr × Obj} {r : List (Addr × Obj)} (N : News h₀ L h (a :: b :: r)) : News h₀ L h [a, b] := fun p hp => N p (by
  simp only [List.mem_cons, List.not_mem_nil, or_false] at hp ⊢
  rcases hp with h | h <;> simp only [h, true_or, or_true])
section
open PyProof.Rows.LCg
variable {prog : Program} {w : World} {A : Around} {E : Value → Shared → Prop} {s : Shared} {h₀ : Heap} {L : Addr} {m : Str → Option Value} {env : Env}
theorem ListComp_tups {elt iter : PySem.Expr} {x : Str} {px : Pos} {scope : Scope} {cl : List (Str × Addr)} {pos : Pos} {Q : Value → Shared → Prop} {f : Int → Int × Int}
    (hclos : closureFor scope env = pure cl) (hcell : ∀ y ∈ scope.names, y.2 ≠ .cell) (hkind : scope.kind = .function)
    (hnames : ∀ y ∈ scope.names, y.2 = .local → scope.names.lookup y.1 = some .local) (hx : scope.names.lookup x = some .local) (hh : A.handled = none)
    (h : wpAny (model prog w) A (eval iter env) (fun xv s₁ => Stop (∃ r a b c t u v n news, xv = .ref r ∧ Fr h₀ L s₁.heap m ∧ News h₀ L s₁.heap news ∧ IsRange s₁.heap r a b c t u v ∧ Builtin.Range.small a b c = true ∧ Builtin.Range.rangeSize a b c = ((n : Nat) : Int) ∧ n ≤ sizeLine ∧
      (∀ (i : Nat) (tv : Tok) (C : Addr) (m₂ : Str → Option Value) (s : Shared) (Q' E' : Value → Shared → Prop), i < n → s.heap.Ns C m₂ → m₂ x = some (.int (a + i * c) tv) → Fr h₀ L s.heap m → News h₀ L s.heap news →
        (∀ u1 u2 tk, wpAny (model prog w) A (newTuple [.int (f (a + i * c)).1 u1, .int (f (a + i * c)).2 u2]) Q' E' { s with toks := tk }) → wpAny (model prog w) A (eval elt (compEnvC scope cl C env)) Q' E' s) ∧
      (∀ D (ts : List T5) h' tk, tsD ts = (List.range n).map (fun i : Nat => f (a + i * c)) → Fr h₀ L h' m → News h₀ L h' ((D, lst (tsV ts)) :: (tsL ts ++ news)) → Q (.ref D) { s₁ with heap := h', toks := tk }))) E s)
    (hs : ∀ x, foldedSetIterable iter env x = pure x) :
    wpAny (model prog w) A (eval (.ListComp elt [⟨.Name x px, iter, [], 0⟩] scope pos) env) Q E s := by
  rw [eval_ListComp]
  refine wpAny_comprehension_free (use := none) rfl hs hclos hkind hnames (wpAny_mono h (fun xv s₁ h₁ => ?_) fun _ _ e => e)
  obtain ⟨r, a, b, c, t, u, v, n, news, rfl, F, N, hr, hsm, hn, hsz, helt, hq⟩ := h₁
  have st : ∀ {I : Addr} i (h h' : Heap) (o : Obj) (nw : List (Addr × Obj)), IsRangeIter h I (a + (i : Nat) * c) ((n : Int) - (i : Nat)) c → h.get? I = some o → h'.get? I = some o → (∀ b o, h₀.get? b = some o → h'.get? b = some o) → News h₀ L h' nw → True → IsRangeIter h' I (a + (i : Nat) * c) ((n : Int) - (i : Nat)) c :=
    fun i h h' o nw st e e' _ _ _ => by
      have st' : h.get? _ = some _ := st
      show h'.get? _ = some _
      rw [e', ← e]; exact st'
  refine wpAny_pyIter_range hr hsm ?_
  refine block_U ((Walks.range hh s₁.heap.objs.size a c n).bound) hsz (fun i h st => ⟨_, st⟩) st hcell hkind hx (by show IsRangeIter _ _ _ _ _; rw [hn]; simpa using Heap.get?_push_size _ rfl) (fun b hb => ?_)
    (F.keeps fun _ _ e => Heap.get?_push_of_some _ e) (N.grown fun _ _ e => Heap.get?_push_of_some _ e) (Nat.ne_of_lt F.ns.lt) (next_is_new F) (fun p hp => Nat.ne_of_lt (Heap.lt_size (N p hp).1)) trivial
    (turns_tups (Fin := FinE h₀ L m { s₁ with heap := s₁.heap.push { cls := .type "range_iterator", data := .fields #[rawInt a, rawInt (Builtin.Range.rangeSize a b c), rawInt c] } } Q) helt (fun ts hd D h' tk F' N' _ => hq D ts h' tk hd F' N') n 0 [] (by (first | lia | omega)) rfl) ?_
  · rw [List.mem_singleton.mp hb]
    show s₁.heap.objs.size < (s₁.heap.push _).objs.size
    rw [Heap.size_push]; exact Nat.lt_succ_self _
  · intro D C h tk m' ys news' F' N' o1 hn hC₀ hD₀ hCL hDL hCD offC fin
    refine ⟨m', hn, fun h'' hs'' => fin D h'' tk (F'.change hs'' hCL hC₀) (fun p hp => ?_) o1⟩
    refine ⟨hs''.extBut _ _ ?_ (N' p hp).1, (N' p hp).2⟩
    rcases List.mem_cons.mp hp with rfl | hp
    · exact Ne.symm hCD
    · exact offC p hp
end
end
section
section
variable {prog : Program} {w : World} {A : Around} {E : Value → Shared → Prop} {s : Shared} {h₀ : Heap} {L : Addr} {m : Str → Option Value} {news : List (Addr × Obj)}
theorem add_listsD {l b : Addr} {vs ws : List Value} {Q : Value → Shared → Prop} (F : Fr h₀ L s.heap m) (N : News h₀ L s.heap news) (hl : s.heap.IsList l vs.toArray) (hb : s.heap.IsList b ws.toArray)
    (h : ∀ D h', Fr h₀ L h' m → News h₀ L h' ((D, listOf (vs ++ ws).toArray 0) :: news) → Q (.ref D) { s with heap := h' })
    (hsz : vs.length + ws.length ≤ sizeLine) : wpAny (model prog w) A (binaryOp .Add (.ref l) (.ref b)) Q E s := add_lists F N hl hb (fun h' a b => h _ h' a b) hsz
theorem newTupleD {M : Model} {vs : List Value} {Q : Value → Shared → Prop} (F : Fr h₀ L s.heap m) (N : News h₀ L s.heap news)
    (h : ∀ T h', Fr h₀ L h' m → News h₀ L h' ((T, tupV vs) :: news) → Q (.ref T) { s with heap := h' }) (hsz : vs.length ≤ sizeLine) : wpAny M A (newTuple vs) Q E s := wpAny_newTuple (h _ _ (F.push _) (N.push F _)) hsz
theorem newListD {M : Model} {vs : List Value} {Q : Value → Shared → Prop} (F : Fr h₀ L s.heap m) (N : News h₀ L s.heap news)
    (h : ∀ T h', Fr h₀ L h' m → News h₀ L h' ((T, listOf vs.toArray 0) :: news) → Q (.ref T) { s with heap := h' }) (hsz : vs.length ≤ sizeLine) : wpAny M A (newList vs) Q E s := wpAny_newList (h _ _ (F.push _) (N.push F _)) hsz
end
end
section
theorem reg_LDecs_0 : True := by
  (k_with "call ref" => ((k_here; (with_reducible show wpAny _ _ (call (Value.ref 363) _ _) _ _ _); refine Stop.out ?_)))
  exact trivial
theorem reg_LDecs_1 : True := by
  (k_with "eval ListComp" => (((with_reducible show wpAny _ _ (eval (Expr.ListComp _ [⟨_, Expr.Call (Expr.Name (Str.ofString "range") _) _ _ _, _, _⟩] _ _) _) _ _ _); refine Stop.out ?_)))
  exact trivial
noncomputable def lawDecs (rest at_ : Int) : List (Int × Int) :=
  if bitsOf rest = 0 then [(at_, 0)] else ((at_, 1) :: (List.range ((bitsOf rest).toNat - 1)).map (fun i : Nat => (20 + (i : Int), (1 : Int)))) ++ [(19 + bitsOf rest, 0)] ++
    (List.range ((bitsOf rest).toNat - 1)).map (fun i : Nat => (33 + bitsOf rest, rest / 2 ^ ((bitsOf rest).toNat - 2 - i) % 2))
theorem decs_pure {rest k : Int} {j : Nat} {ts ts3 : List T5} {D1 T1 : Addr} {u u1 u2 u3 : Tok} (r0 : 0 ≤ rest) (hz : bitsOf rest ≠ 0) (hj : bitsOf rest = (j : Int) + 1)
    (h1 : tsD ts = (List.range (bitsOf rest - 1).toNat).map (fun i : Nat => (20 + (0 + (i : Int) * 1), (1 : Int))))
    (h2 : tsD ts3 = (List.range j).map (fun i : Nat => (33 + bitsOf rest, Int.fmod (Int.fdiv rest (2 ^ (bitsOf rest - 2 + (i : Int) * -1).toNat)) 2))) :
    tsD (((D1, (k, u), (1, u1)) :: ts) ++ [(T1, (19 + bitsOf rest, u2), (0, u3))] ++ ts3) = lawDecs rest k := by
  unfold lawDecs
  rw [if_neg hz]
  have e1 : ∀ a b : List T5, tsD (a ++ b) = tsD a ++ tsD b := fun a b => List.map_append ..
  have e2 : tsD ((D1, (k, u), (1, u1)) :: ts) = (k, 1) :: tsD ts := rfl
  have e3 : tsD [(T1, (19 + bitsOf rest, u2), (0, u3))] = [(19 + bitsOf rest, 0)] := rfl
  rw [e1, e1, e2, e3, h1, h2]
  have e4 : (bitsOf rest - 1).toNat = j := by (first | lia | omega)
  have e5 : (bitsOf rest).toNat - 1 = j := by (first | lia | omega)
  rw [e4, e5]
  congr 1
  · congr 2
    apply List.map_congr_left
    intro i _
    congr 1
    (first | lia | omega)
  · apply List.map_congr_left
    intro i hi
    have hi := List.mem_range.mp hi
    have e6 : (bitsOf rest - 2 + (i : Int) * -1).toNat = (bitsOf rest).toNat - 2 - i := by (first | lia | omega)
    have e7 : (0 : Int) < 2 ^ ((bitsOf rest).toNat - 2 - i) := Int.pow_pos (by decide)
    rw [e6, Int.fdiv_eq_ediv_of_nonneg _ (by (first | lia | omega)), Int.fmod_eq_emod_of_nonneg _ (by decide)]
set_option maxHeartbeats 8000000 in
theorem decs_ctr {prog : Program} {w : World} {mean : ExcName → Option Value} {mg mb : Str → Option Value} {rest k : Int} {t u : Tok} (r0 : 0 ≤ rest) (r1 : rest < 32768) :
    Ctr prog w mean mg mb 368 40 500 [.int rest t, .int k u] [] (fun v B => ∃ lst ts n, v = .ref lst ∧ tsD ts = lawDecs rest k ∧ B = decsL lst ts n) := by
  intro dp un gd cn cs a ccd cl outer A₀ base h₀ L m s Q E B F X N T hk hd hu hret
  refine wpAny_call ?_
  k_dflt (refine' code_defCR ?k1 ?k2 ?k3 ?k4 ?k5 ?kA ?kF ?kK ?k6 ?k7 ?k8 ?k9 ?kB ?kD ?_ ?c2 ?c3 ?c4; (case kA => exact rfl); (case kF => exact rfl); (case kK => assumption); (case k1 => k_asm); (case k2 => k_asm); (case k3 => k_asm); (case k4 => k_asm); (case k5 => k_asm); (case k6 => k_is); (case k7 => k_is); (case k8 => exact Nat.lt_of_le_of_lt (Nat.le_add_right _ _) (by assumption)); (case k9 => exact BindsTo.of_eq rfl); (case kB => exact rfl); (case kD => decide +kernel); (case c2 => exact rfl); (case c3 => exact rfl); (case c4 => exact rfl); k_whole)
  intro g' L' h' tk' cells' KG' FG' F' N' Y' B' X' T' l1
  k_cells Y'
  try simp only [List.cons_append, List.nil_append] at N'
  try dsimp only
  first | (refine wpAny_folded ?_; intro M9 e9 A9; k_fold) | (refine wpC.folded ?_; intro M9 e9 A9 q9)
  k_steps
  refine Stop.mk ?_
  rename Fr g' L' _ _ => FF
  rename News g' L' _ _ => NN
  have hC := fun t => bits_ctr (prog := prog) (w := w) (mean := mean) (mg := mg) (mb := mb) (rest := rest) (t := t) r0 r1
  k_dflt (refine' Ctr.use (hC _) ?k1 ?k2 ?k3 ?k4 ?k5 ?k6 ?k7 ?k8 ?_; (case k1 => k_asm); (case k2 => exact FF); (case k3 => k_asm); (case k4 => exact News.nil); (case k5 => k_asm); (case k6 => exact rfl); (case k7 => exact bnd2 1 20 hd rfl); (case k8 => exact bnd2 3 100 hu rfl))
  clear hC
  rintro _ _ h4 tk4 ⟨u4, rfl, rfl⟩ F4 N4 K4
  have N5 := news_after (A := []) NN N4 K4 (fun p hp => .inr ⟨hp, by simp⟩)
  clear NN N4 FF
  have hM := bitsOf_le r0 r1
  k_steps
  · rename _ = (0 : Int) => hz
    rename News g' L' _ _ => NX
    rename Fr h₀ L _ _ => kF
    rename News h₀ L _ _ => kN
    rename Fr g' L' _ _ => F8
    have e : lawDecs rest k = [(k, 0)] := by unfold lawDecs; rw [if_pos hz]
    rw [e] at hret
    exact hret _ _ _ _ ⟨_, [(_, (k, _), (0, _))], 0, rfl, rfl, rfl⟩ kF (newsTake2 kN) (KG'.of_fr F8)
  · refine Stop.mk ?_
    rename _ ≠ (0 : Int) => hz
    rename Fr g' L' _ _ => FF
    rename News g' L' _ _ => NN
    (with_reducible apply ListComp_tups (h₀ := g') (L := L') (m := frM FF) (f := fun i => (20 + i, 1))); (case hh => with_unfolding_all rfl); (case hclos => with_unfolding_all rfl); (case hcell => decide); (case hkind => with_unfolding_all rfl); (case hnames => decide); (case hx => with_unfolding_all rfl); (case hs => intro _; with_unfolding_all rfl)
    dsimp only [frM]
    k_steps
    rename Fr g' L' _ _ => FF
    rename News g' L' _ _ => NN
    rename IsRange _ _ _ _ _ _ _ _ => RR
    have hsz : (bitsOf rest - 1).toNat ≤ sizeLine := by rw [sizeLine_eq]; (first | lia | omega)
    refine Stop.mk ⟨_, _, _, _, _, _, _, (bitsOf rest - 1).toNat, _, rfl, FF, NN, RR, small_one (by decide) (by decide) (by (first | lia | omega)) (by (first | lia | omega)), by rw [rangeSize_nat]; congr 2; (first | lia | omega), hsz, ?_, ?_⟩
    · intro i tv C m₂ s9 Q' E' hi hns hm F9 N9 hk9
      clear F9 N9
      k_steps
      exact hk9 _ _ _
    · intro D ts h9 tk9 hd9 F9 N9
      have hlt : ts.length = (bitsOf rest - 1).toNat := by have := congrArg List.length hd9; simpa [tsD] using this
      k_steps
      clear FF NN
      rename Fr g' L' _ _ => FF
      rename News g' L' _ _ => NN
      have hl1 := newsList (n := 0) NN (.tail _ (List.mem_append_right _ (.head _)))
      have hl2 := newsList (n := (tsV ts).length) NN (.head _)
      have hlts : (tsV ts).length ≤ 15 := by rw [List.length_map]; (first | lia | omega)
      refine add_listsD (vs := [_]) (ws := tsV ts) FF NN hl1 hl2 ?_ (by rw [sizeLine_eq, List.length_singleton]; (first | lia | omega))
      intro D2 h10 F10 N10
      obtain ⟨D1, u1, N12⟩ : ∃ (D1 : Addr) (u1 : Tok), News g' L' h10 ((D2, listOf (tsV ((D1, (k, u), (1, u1)) :: ts)).toArray 0) :: (tsL ((D1, (k, u), (1, u1)) :: ts) ++ [(L' + 1 + 1, _), (L' + 1, _)])) := ⟨_, _, fun p hp => N10 p (by
        simp only [List.mem_cons, List.mem_append, List.map_cons, List.cons_append] at hp ⊢
        rcases hp with h | h | h | h | h | h
        · exact .inl h
        · exact .inr (.inr (.inr (.inr (.inl h))))
        · exact .inr (.inr (.inl h))
        · exact .inr (.inr (.inr (.inr (.inr (.inl h)))))
        · exact .inr (.inr (.inr (.inr (.inr (.inr (.inl h))))))
        · cases h)⟩
      have NC : News g' L' h10 [(L' + 1 + 1, _), (L' + 1, _)] := fun p hp => N12 p (.tail _ (List.mem_append_right _ hp))
      have F10h := Hid.mk F10
      have N12h := Hid.mk N12
      clear F10 N12 FF NN N10
      dsimp only
      k_steps
      refine newTupleD F10h.out N12h.out ?_ (by rw [sizeLine_eq]; simp)
      intro T1 h11 F11 N13
      have NC2 : News g' L' h11 [(L' + 1 + 1, _), (L' + 1, _)] := fun p hp => N13 p (.tail _ (.tail _ (List.mem_append_right _ hp)))
      have F11h := Hid.mk F11
      have N13h := Hid.mk N13
      clear F11 N13 NC F10h N12h
      k_steps
      refine newListD F11h.out N13h.out ?_ (by rw [sizeLine_eq]; simp)
      intro P1 h12 F12 N14
      have hl3 := newsList (n := 0) N14 (.tail _ (.tail _ (.head _)))
      have hl4 := newsList (n := 0) N14 (.head _)
      have F12h := Hid.mk F12
      have N14h := Hid.mk N14
      clear F12 N14 NC2 F11h N13h
      k_steps
      refine add_listsD (vs := tsV ((D1, (k, u), (1, u1)) :: ts)) (ws := [_]) F12h.out N14h.out hl3 hl4 ?_ (by rw [sizeLine_eq]; show (tsV ts).length + 1 + 1 ≤ _; (first | lia | omega))
      intro D3 h13 F13 N15
      clear F12h N14h hl1 hl2 hl3 hl4
      obtain ⟨u2, u3, N16⟩ : ∃ (u2 u3 : Tok), News g' L' h13 ((D3, listOf (tsV (((D1, (k, u), (1, u1)) :: ts) ++ [(T1, (19 + bitsOf rest, u2), (0, u3))])).toArray 0) :: (tsL (((D1, (k, u), (1, u1)) :: ts) ++ [(T1, (19 + bitsOf rest, u2), (0, u3))]) ++ [(L' + 1 + 1, _), (L' + 1, _)])) := ⟨_, _, fun p hp => N15 p (by
        rw [show ∀ (a : List T5) (b : T5), tsV (a ++ [b]) = tsV a ++ [Value.ref b.1] from fun a b => by simp, show ∀ (a : List T5) (b : T5), tsL (a ++ [b]) = tsL a ++ [(b.1, tObj b)] from fun a b => by simp] at hp
        simp only [List.mem_cons, List.mem_append, List.not_mem_nil, or_false] at hp ⊢
        rcases hp with h | (h | h) | h | h
        · exact .inl h
        · exact .inr (.inr (.inr (.inr (.inl h))))
        · exact .inr (.inr (.inl h))
        · exact .inr (.inr (.inr (.inr (.inr (.inl h)))))
        · exact .inr (.inr (.inr (.inr (.inr (.inr h))))))⟩
      generalize hts2 : ((D1, (k, u), (1, u1)) :: ts) ++ [(T1, (19 + bitsOf rest, u2), (0, u3))] = ts2 at N16
      clear N15
      refine wpAny_storeName_local (by rfl) F13.ns (fun h14 hn14 hs14 => ?_)
      have F14 := F13.set hn14 hs14
      have N17 := N16.set hs14
      have NC3 : News g' L' h14 [(L' + 1 + 1, _), (L' + 1, _)] := fun p hp => N17 p (.tail _ (List.mem_append_right _ hp))
      have N17h := Hid.mk N17
      clear N17 N16 F13 hn14 hs14
      dsimp only
      k_steps
      refine Stop.mk ?_
      rename Fr g' L' _ _ => FF
      have F15h := Hid.mk FF
      (with_reducible apply ListComp_tups (h₀ := g') (L := L') (m := frM FF) (f := fun p => (33 + bitsOf rest, Int.fmod (Int.fdiv rest (2 ^ p.toNat)) 2))); (case hh => with_unfolding_all rfl); (case hclos => with_unfolding_all rfl); (case hcell => decide); (case hkind => with_unfolding_all rfl); (case hnames => decide); (case hx => with_unfolding_all rfl); (case hs => intro _; with_unfolding_all rfl)
      dsimp only [frM]
      k_steps
      rename Fr g' L' _ _ => FF
      rename News g' L' _ _ => NN
      rename IsRange _ _ _ _ _ _ _ _ => RR
      rename ∀ (b : Addr) (o : Obj), _ = some o → _ = some o => hkeep
      have N18 := N17h.out.grown hkeep
      have hrs : ∀ j : Nat, j ≤ 14 → Builtin.Range.small ((j : Int) - 1) (-1) (-1) = true ∧ Builtin.Range.rangeSize ((j : Int) - 1) (-1) (-1) = (j : Int) := by decide
      obtain ⟨j, hj⟩ : ∃ j : Nat, bitsOf rest = (j : Int) + 1 := ⟨(bitsOf rest - 1).toNat, by (first | lia | omega)⟩
      have ej : bitsOf rest - 2 = (j : Int) - 1 := by (first | lia | omega)
      have hrs1 := hrs j (by (first | lia | omega))
      rw [← ej] at hrs1
      have hjs : j ≤ sizeLine := by rw [sizeLine_eq]; (first | lia | omega)
      refine Stop.mk ⟨_, _, _, _, _, _, _, j, _, rfl, FF, N18, RR, hrs1.1, hrs1.2, hjs, ?_, ?_⟩
      · intro i tv C m₂ s9 Q' E' hi hns hm F9 N9 hk9
        have NC9 : News g' L' s9.heap [(L' + 1 + 1, _), (L' + 1, _)] := fun p hp => N9 p (.tail _ (List.mem_append_right _ hp))
        clear F9 N9 FF NN N18 N17h RR hkeep
        have hp0 : 0 ≤ bitsOf rest - 2 + (i : Int) * -1 := by (first | lia | omega)
        have hp1 : bitsOf rest - 2 + (i : Int) * -1 ≤ 13 := by (first | lia | omega)
        generalize hpw : bitsOf rest - 2 + (i : Int) * -1 = pw at *
        have hq1 : ∀ q : Nat, q < 14 → 1 ≤ (2 : Int) ^ q ∧ (2 : Int) ^ q ≤ 8192 := by decide
        obtain ⟨hq2, hq3⟩ := hq1 pw.toNat (by (first | lia | omega))
        have hq4 : ¬ (2 : Int) ^ pw.toNat = 0 := by (first | lia | omega)
        k_steps
        all_goals exact hk9 _ _ _
      · intro D4 ts3 h15 tk15 hd15 F15 N19
        have hlt3 : ts3.length = j := by have := congrArg List.length hd15; simpa [tsD] using this
        have hl5 := newsList (n := 0) N19 (.tail _ (List.mem_append_right _ (.head _)))
        have hl6 := newsList (n := (tsV ts3).length) N19 (.head _)
        have hlz : ts2.length = ts.length + 2 := by rw [← hts2]; simp
        have F15h := Hid.mk F15
        have N19h := Hid.mk N19
        clear FF NN F15 N19
        k_steps
        refine add_listsD (vs := tsV ts2) (ws := tsV ts3) F15h.out N19h.out hl5 hl6 ?_ (by rw [sizeLine_eq, List.length_map, List.length_map]; (first | lia | omega))
        intro D5 h16 F16 N20
        clear hl5 hl6
        have N21 : News g' L' h16 (decsL D5 (ts2 ++ ts3) 0) := fun p hp => N20 p (by
          change p ∈ (D5, listOf (tsV (ts2 ++ ts3)).toArray 0) :: tsL (ts2 ++ ts3) at hp
          rw [show ∀ (a b : List T5), tsV (a ++ b) = tsV a ++ tsV b from fun a b => List.map_append .., show ∀ (a b : List T5), tsL (a ++ b) = tsL a ++ tsL b from fun a b => List.map_append ..] at hp
          simp only [List.mem_cons, List.mem_append] at hp ⊢
          rcases hp with h | h | h
          · exact .inl h
          · exact .inr (.inr (.inr (.inr (.inl h))))
          · exact .inr (.inr (.inl h)))
        refine leaveK_ F16 N21 fun kF kN => hret _ _ _ _ ⟨D5, ts2 ++ ts3, 0, rfl, ?_, rfl⟩ kF kN (KG'.of_fr F16)
        rw [← hts2]
        exact decs_pure r0 hz hj hd9 hd15
end
theorem off_LDecs : True := by
  k_with_none
  (k_with "call builtin:len" => ((k_here; (with_reducible show wpAny _ _ (call (Value.builtin "len") [Value.ref _]) _ _ _); k_dflt (refine' ba_len ?k1 ?k2 ?k3 ?_; (case k1 => k_asm); (case k2 => k_mem); (case k3 => ksw_less); k_whole))))
  (k_with "subscriptTail" => ((k_here; (with_reducible show wpAny _ _ (subscriptTail _ _ (Value.ref _) (Value.int _ _)) _ _ _); k_dflt (refine' ba_item ?k1 ?k2 ?k3 ?k4 ?k5 ?k6 ?_ ?k7; (case k1 => k_asm); (case k2 => k_mem); (case k3 => with_reducible assumption); (case k4 => ksw_less); (case k5 => ksw_less); (case k6 => ksw_less); (case k7 => with_unfolding_all rfl); k_whole))))
  (k_with "subscriptTail" => ((k_here; (with_reducible show wpAny _ _ (subscriptTail _ _ (Value.ref _) (Value.int (-1) _)) _ _ _); k_dflt (refine' ba_last ?k1 ?k2 ?k3 ?k5 ?k6 ?_ ?k7; (case k1 => k_asm); (case k2 => k_mem); (case k3 => with_reducible assumption); (case k5 => ksw_less); (case k6 => ksw_less); (case k7 => with_unfolding_all rfl); k_whole))))
  (k_with "getItem ref int" => ((k_here; (with_reducible show wpAny _ _ (getItem (Value.ref _) (Value.int _ _)) _ _ _); k_dflt (refine' ba_get ?k1 ?k2 ?k3 ?k4 ?k5 ?k6 ?_; (case k1 => k_asm); (case k2 => k_mem); (case k3 => with_reducible assumption); (case k4 => ksw_less); (case k5 => ksw_less); (case k6 => ksw_less); k_whole))))
  (k_with "setItem ref int" => ((k_here; (with_reducible show wpAny _ _ (setItem (Value.ref _) (Value.int _ _) (Value.int _ _)) _ _ _); k_dflt (refine' BA.setItem ?k1 ?k2 ?k3 ?k4 ?k5 ?k6 ?k7 ?k8 ?_; (case k1 => k_asm); (case k2 => k_asm); (case k3 => k_upd); (case k4 => ksw_less); (case k5 => ksw_less); (case k6 => ksw_less); (case k7 => ksw_less); (case k8 => ksw_less); k_whole); intro h' F' N'; (try k_sweep))))
  (k_with "m_open" => ((
    (case kA => exact rfl); (case kF => exact rfl); (case kK => assumption); (case k1 => k_asm); (case k2 => k_asm); (case k3 => k_asm); (case k4 => k_asm); (case k5 => k_asm)
    (case k6 => k_is); (case k7 => k_is); (case k8 => first | exact Nat.lt_of_le_of_lt (Nat.le_add_right _ _) (by assumption) | (refine Nat.lt_of_le_of_lt (Nat.add_le_add_left ?_ _) (by assumption); exact Nat.le_of_ble_eq_true rfl)); (case k9 => first | exact BindsTo.of_eq rfl | exact binds_K (by k_in) rfl (by k_is) rfl rfl rfl); (case c5 => decide); (case kB => exact locs rfl); (case c2 => exact rfl); (case c3 => exact rfl); (case c4 => exact rfl); k_whole)))
  (k_with "m_start" => (((try dsimp only); refine wpC.consL ?_; k_steps; all_goals (try k_fold))))
  (k_with "exec While Compare cons nil" => ((k_here; refine Stop.out ?_)))
  (k_with "exec While BoolOp cons nil" => ((k_here; refine Stop.out ?_)))
  (k_with "getMethod ref" => ((k_here; k_dflt (first
    | (refine' ba_method ?k1 ?k2 BA.slot_append BA.type_append ?_; (case k1 => k_asm); (case k2 => k_mem); k_whole)
    | (refine' ba_method ?k1 ?k2 BA.slot_pop BA.type_pop ?_; (case k1 => k_asm); (case k2 => k_mem); k_whole)))))
  (k_with "subscriptTail" => ((k_here; (with_reducible show wpAny _ _ (subscriptTail _ _ (Value.ref 196) (Value.int _ _)) _ _ _); k_dflt (refine' st_row ?k1 ?k2 ?k3 ?k4 ?_ ?k7; (case k1 => k_asm); (case k2 => k_asm); (case k3 => ksw_less); (case k4 => ksw_less); (case k7 => with_unfolding_all rfl); k_whole))))
  (k_with "subscriptTail" => ((k_here; (with_reducible show wpAny _ _ (subscriptTail _ _ (Value.ref (82 + Int.toNat _)) (Value.int _ _)) _ _ _); k_dflt (first
    | (refine' st_item (j := 0) ?k1 ?k2 ?k3 ?k4 ?k5 ?k6 ?k8 ?_ ?k7; (case k5 => exact rfl); (case k8 => exact ⟨_, rfl⟩); (case k1 => k_asm); (case k2 => k_asm); (case k3 => ksw_less); (case k4 => ksw_less); (case k6 => decide); (case k7 => with_unfolding_all rfl); k_whole)
    | (refine' st_item (j := 1) ?k1 ?k2 ?k3 ?k4 ?k5 ?k6 ?k8 ?_ ?k7; (case k5 => exact rfl); (case k8 => exact ⟨_, rfl⟩); (case k1 => k_asm); (case k2 => k_asm); (case k3 => ksw_less); (case k4 => ksw_less); (case k6 => decide); (case k7 => with_unfolding_all rfl); k_whole)
    | (refine' st_item (j := 2) ?k1 ?k2 ?k3 ?k4 ?k5 ?k6 ?k8 ?_ ?k7; (case k5 => exact rfl); (case k8 => exact ⟨_, rfl⟩); (case k1 => k_asm); (case k2 => k_asm); (case k3 => ksw_less); (case k4 => ksw_less); (case k6 => decide); (case k7 => with_unfolding_all rfl); k_whole)
    | (refine' st_item (j := 3) ?k1 ?k2 ?k3 ?k4 ?k5 ?k6 ?k8 ?_ ?k7; (case k5 => exact rfl); (case k8 => exact ⟨_, rfl⟩); (case k1 => k_asm); (case k2 => k_asm); (case k3 => ksw_less); (case k4 => ksw_less); (case k6 => decide); (case k7 => with_unfolding_all rfl); k_whole)); intro _)))
  (k_with "call ref" => ((k_here; ((first | (with_reducible show wpAny _ _ (call (Value.ref 225) _ _) _ _ _) | (with_reducible show wpAny _ _ (call (Value.ref 232) _ _) _ _ _)); refine Stop.out ?_))))
  exact trivial
section
theorem bitDecs_spec (a r : Int) : ∀ (j n : Nat), j ≤ n → bitDecs n (2 ^ j) a r = (List.range j).map (fun i : Nat => (a, r / 2 ^ (j - 1 - i) % 2))
  | 0, n, _ => by rw [bitDecs_stop (by decide)]; rfl
  | j + 1, 0, h => by (first | lia | omega)
  | j + 1, n + 1, h => by
    have e1 := Int.pow_succ 2 j
    have e2 : (0 : Int) < 2 ^ j := Int.pow_pos (by decide)
    have e3 : (2 : Int) ^ (j + 1) / 2 = 2 ^ j := by (first | lia | omega)
    rw [bitDecs_go (by (first | lia | omega)), e3, bitDecs_spec a r j n (by (first | lia | omega)), List.range_succ_eq_map]
    simp only [List.map_cons, List.map_map]
    congr 1
    apply List.map_congr_left
    intro i hi
    have := List.mem_range.mp hi
    simp only [Function.comp]
    congr 4
    (first | lia | omega)
theorem lawDecs_eq {rest k : Int} (r0 : 0 ≤ rest) (r1 : rest < 32768) : lawDecs rest k = sizeDecs rest k ++ bitDecs 15 (sizeEnd rest k).1 ((sizeEnd rest k).2 + 14) rest := by
  by_cases h : 0 < rest
  · obtain ⟨m, B, e1, e2⟩ := size_spec (k := k) h r1
    have m1 := B.m1
    have m2 := B.m2
    unfold lawDecs
    rw [B.many, if_neg (by (first | lia | omega)), e1, e2, bitDecs_spec _ _ _ _ (by (first | lia | omega)), Int.toNat_natCast]
    simp only [List.cons_append, List.append_assoc]
    congr 2
    congr 1
    apply List.map_congr_left
    intro i hi
    have := List.mem_range.mp hi
    have e4 : m - 1 - 1 - i = m - 2 - i := by (first | lia | omega)
    rw [e4]
    congr 1
    (first | lia | omega)
  · have e : rest = 0 := by (first | lia | omega)
    subst e
    unfold lawDecs
    rw [bits_zero, if_pos rfl]
    have e1 : sizeEnd 0 k = (0, k) := by simp [sizeEnd]
    have e2 : sizeDecs 0 k = [(k, 0)] := by simp [sizeDecs]
    rw [e1, e2, bitDecs_stop (show ¬ (0 : Int) > 1 by decide)]
    rfl
end
section
/-! the round trip: what one put does to the interval -/
noncomputable def Enc.n (x : Enc) : Int := 8 * (x.found.length : Int) - x.left + 11
theorem Enc.lower_lo (x : Enc) (l : Int) : (x.lower l).lo = x.lo ∧ (x.lower l).n = x.n ∧ (x.lower l).size = x.size - l := ⟨rfl, rfl, rfl⟩
theorem Enc.upper_lo (x : Enc) (l : Int) : (x.upper l).lo = x.lo + (x.size - l) ∧ (x.upper l).n = x.n ∧ (x.upper l).size = l := ⟨by unfold Enc.lo Enc.upper; dsimp only; (first | lia | omega), rfl, rfl⟩
theorem widen_split {y : Enc} (h : EncOk y) : ∃ k : Nat, y.widen.size = y.size * 2 ^ k ∧ y.widen.lo = y.lo * 2 ^ k ∧ y.widen.n = y.n + k := by
  obtain ⟨_, _, _, k, _, k2, k3, k4, _⟩ := widen_ok h
  exact ⟨k, k2, k3, by unfold Enc.n; (first | lia | omega)⟩
/-- does a put take the interval's low part -/
noncomputable def isLow (x : Enc) (b : Bin) (k bit : Int) : Prop := (bit = b.es.getD k.toNat 0) ↔ (x.size - lessOf (b.ss.getD k.toNat 0) ≥ lessOf (b.ss.getD k.toNat 0))
theorem put_split {n : Nat} {x : Enc} {b : Bin} (g : Good n x b) {k : Int} (k0 : 0 ≤ k) (k1 : k < 49) (bit : Int) : ∃ j : Nat, (encPut x b k bit).1.n = x.n + j ∧
    (isLow x b k bit → (encPut x b k bit).1.lo = x.lo * 2 ^ j ∧ (encPut x b k bit).1.size = (x.size - lessOf (b.ss.getD k.toNat 0)) * 2 ^ j) ∧
    (¬ isLow x b k bit → (encPut x b k bit).1.lo = (x.lo + (x.size - lessOf (b.ss.getD k.toNat 0))) * 2 ^ j ∧ (encPut x b k bit).1.size = lessOf (b.ss.getD k.toNat 0) * 2 ^ j) := by
  have q := g.bin.st k0 k1
  have r := row_in q.1 q.2
  have hl := g.ok.lower r.1 r.2.1 g.big
  have hu := g.ok.upper r.1 r.2.1 g.big
  obtain ⟨i1, a1, a2, a3⟩ := widen_split hl
  obtain ⟨i2, b1, b2, b3⟩ := widen_split hu
  obtain ⟨c1, c2, c3⟩ := x.lower_lo (lessOf (b.ss.getD k.toNat 0))
  obtain ⟨d1, d2, d3⟩ := x.upper_lo (lessOf (b.ss.getD k.toNat 0))
  rw [c3] at a1
  rw [c1] at a2
  rw [c2] at a3
  rw [d3] at b1
  rw [d1] at b2
  rw [d2] at b3
  unfold encPut isLow
  dsimp only
  by_cases e1 : bit = b.es.getD k.toNat 0
  · rw [if_pos e1]
    by_cases e2 : x.size - lessOf (b.ss.getD k.toNat 0) ≥ 32768
    · rw [if_pos e2]
      refine ⟨0, by rw [c2]; simp, fun _ => ⟨by rw [c1]; simp, by rw [c3]; simp⟩, fun hn => absurd ⟨fun _ => by (first | lia | omega), fun _ => e1⟩ hn⟩
    · rw [if_neg e2]
      by_cases e3 : x.size - lessOf (b.ss.getD k.toNat 0) < lessOf (b.ss.getD k.toNat 0)
      · rw [if_pos e3]
        exact ⟨i2, b3, fun hy => absurd (hy.mp e1) (by (first | lia | omega)), fun _ => ⟨b2, b1⟩⟩
      · rw [if_neg e3]
        exact ⟨i1, a3, fun _ => ⟨a2, a1⟩, fun hn => absurd ⟨fun _ => by (first | lia | omega), fun _ => e1⟩ hn⟩
  · rw [if_neg e1]
    by_cases e3 : x.size - lessOf (b.ss.getD k.toNat 0) ≥ lessOf (b.ss.getD k.toNat 0)
    · rw [if_pos e3]
      exact ⟨i2, b3, fun hy => absurd (hy.mpr e3) e1, fun _ => ⟨b2, b1⟩⟩
    · rw [if_neg e3]
      exact ⟨i1, a3, fun _ => ⟨a2, a1⟩, fun hn => absurd ⟨fun h => absurd h e1, fun h => absurd h e3⟩ hn⟩
/-- the intervals lie in each other -/
theorem run_nest : ∀ (ds : List (Int × Int)) {n : Nat} {x : Enc} {b : Bin}, Good n x b → Decs ds → ∃ j : Nat, (encRun (x, b) ds).1.n = x.n + j ∧ x.lo * 2 ^ j ≤ (encRun (x, b) ds).1.lo ∧ (encRun (x, b) ds).1.lo + (encRun (x, b) ds).1.size ≤ (x.lo + x.size) * 2 ^ j
  | [], n, x, b, g, _ => ⟨0, by simp [encRun], by simp [encRun], by simp [encRun]⟩
  | d :: ds, n, x, b, g, hd => by
    have h := hd d (by simp)
    obtain ⟨i, p1, p2, p3⟩ := put_split g h.1 h.2 d.2
    obtain ⟨j, r1, r2, r3⟩ := run_nest ds (g.put h.1 h.2 d.2) (fun e he => hd e (by simp [he]))
    have q := g.bin.st h.1 h.2
    have r := row_in q.1 q.2
    have bg := g.big
    rw [encRun_cons]
    have e9 : (2 : Int) ^ (i + j) = 2 ^ i * 2 ^ j := Int.pow_add ..
    have pi : (0 : Int) < 2 ^ i := Int.pow_pos (by decide)
    have pj : (0 : Int) < 2 ^ j := Int.pow_pos (by decide)
    refine ⟨i + j, by rw [r1, p1]; push_cast; (first | lia | omega), ?_, ?_⟩
    · refine Int.le_trans ?_ r2
      rw [e9, ← Int.mul_assoc]
      refine Int.mul_le_mul_of_nonneg_right ?_ (Int.le_of_lt pj)
      by_cases hl : isLow x b d.1 d.2
      · rw [(p2 hl).1]; exact Int.le_refl _
      · rw [(p3 hl).1]; exact Int.mul_le_mul_of_nonneg_right (by (first | lia | omega)) (Int.le_of_lt pi)
    · refine Int.le_trans r3 ?_
      rw [e9, ← Int.mul_assoc]
      refine Int.mul_le_mul_of_nonneg_right ?_ (Int.le_of_lt pj)
      by_cases hl : isLow x b d.1 d.2
      · rw [(p2 hl).1, (p2 hl).2, ← Int.add_mul]; exact Int.mul_le_mul_of_nonneg_right (by (first | lia | omega)) (Int.le_of_lt pi)
      · rw [(p3 hl).1, (p3 hl).2, ← Int.add_mul]; exact Int.mul_le_mul_of_nonneg_right (by (first | lia | omega)) (Int.le_of_lt pi)
end
section
/-! octets as a fraction -/
theorem vf_len : ∀ (l : List Int) (a : Int), vf a l = a * 256 ^ l.length + val l
  | [], a => by simp [vf, val]
  | x :: r, a => by
    have h1 : vf a (x :: r) = vf (a * 256 + x) r := rfl
    have h2 : val (x :: r) = vf (0 * 256 + x) r := rfl
    rw [h1, h2, vf_len r, vf_len r (0 * 256 + x), List.length_cons, Int.pow_succ, Int.add_mul, Int.add_mul, Int.mul_assoc, Int.mul_comm (256 ^ r.length) 256]
    (first | lia | omega)
theorem val_cons (x : Int) (r : List Int) : val (x :: r) = x * 256 ^ r.length + val r := by
  have h2 : val (x :: r) = vf (0 * 256 + x) r := rfl
  rw [h2, vf_len, Int.zero_mul, Int.zero_add]
theorem val_bound : ∀ {l : List Int}, Octets l → 0 ≤ val l ∧ val l < 256 ^ l.length
  | [], _ => by simp [val, vf]
  | x :: r, h => by
    have hx := h x (by simp)
    have hr := val_bound (l := r) fun y hy => h y (by simp [hy])
    rw [val_cons, List.length_cons, Int.pow_succ]
    have p : (0 : Int) < 256 ^ r.length := Int.pow_pos (by decide)
    have m1 : 0 ≤ x * 256 ^ r.length := Int.mul_nonneg hx.1 (Int.le_of_lt p)
    have m2 : x * 256 ^ r.length ≤ 255 * 256 ^ r.length := Int.mul_le_mul_of_nonneg_right (by (first | lia | omega)) (Int.le_of_lt p)
    (first | lia | omega)
/-- the first c octets' number, zeros behind the end -/
noncomputable def Wd (o : List Int) : Nat → Int
  | 0 => 0
  | c + 1 => Wd o c * 256 + o.getD c 0
theorem Wd_eq (l : List Int) : ∀ c : Nat, Wd l c * 256 ^ l.length + val (l.drop c) * 256 ^ c = val l * 256 ^ c
  | 0 => by simp [Wd]
  | c + 1 => by
    have ih := Wd_eq l c
    rw [Wd, Int.pow_succ]
    by_cases hc : c < l.length
    · have e1 : l.drop c = l.getD c 0 :: l.drop (c + 1) := by rw [List.drop_eq_getElem_cons hc]; simp [hc]
      have e2 : (256 : Int) ^ l.length = 256 ^ (l.drop (c + 1)).length * (256 ^ c * 256) := by
        rw [← Int.pow_succ, ← Int.pow_add, List.length_drop]; congr 1; (first | lia | omega)
      rw [e1, val_cons] at ih
      generalize (256 : Int) ^ (l.drop (c + 1)).length = P at *
      generalize val (l.drop (c + 1)) = V at *
      generalize l.getD c 0 = x at *
      generalize Wd l c = w at *
      generalize (256 : Int) ^ c = Q at *
      rw [e2] at ih ⊢
      have i1 : (w * 256 + x) * (P * (Q * 256)) + V * (Q * 256) = 256 * (w * (P * (Q * 256)) + (x * P + V) * Q) := by
        simp only [Int.add_mul, Int.mul_add]
        have j1 : w * 256 * (P * (Q * 256)) = 256 * (w * (P * (Q * 256))) := by simp only [Int.mul_assoc, Int.mul_left_comm, Int.mul_comm]
        have j2 : x * (P * (Q * 256)) = 256 * (x * P * Q) := by simp only [Int.mul_assoc, Int.mul_left_comm, Int.mul_comm]
        have j3 : V * (Q * 256) = 256 * (V * Q) := by simp only [Int.mul_assoc, Int.mul_left_comm, Int.mul_comm]
        (first | lia | omega)
      rw [i1, ih]
      simp only [Int.mul_assoc, Int.mul_left_comm, Int.mul_comm]
    · have e1 : l.drop c = [] := List.drop_eq_nil_of_le (by (first | lia | omega))
      have e2 : l.drop (c + 1) = [] := List.drop_eq_nil_of_le (by (first | lia | omega))
      have e3 : l.getD c 0 = 0 := by simp [List.getD, List.getElem?_eq_none (show l.length ≤ c by (first | lia | omega))]
      rw [e1] at ih
      rw [e2, e3]
      have v0 : val [] = 0 := rfl
      rw [v0, Int.zero_mul, Int.add_zero] at ih ⊢
      rw [Int.add_zero, Int.mul_assoc, Int.mul_comm 256, ← Int.mul_assoc, ih, Int.mul_assoc]
theorem Wd_bound {l : List Int} (h : Octets l) (c : Nat) : Wd l c * 256 ^ l.length ≤ val l * 256 ^ c ∧ val l * 256 ^ c < (Wd l c + 1) * 256 ^ l.length := by
  have e := Wd_eq l c
  have hb := val_bound (l := l.drop c) fun y hy => h y (List.mem_of_mem_drop hy)
  have pc : (0 : Int) < 256 ^ c := Int.pow_pos (by decide)
  have pl : (0 : Int) < 256 ^ l.length := Int.pow_pos (by decide)
  have m1 : 0 ≤ val (l.drop c) * 256 ^ c := Int.mul_nonneg hb.1 (Int.le_of_lt pc)
  have m2 : val (l.drop c) * 256 ^ c < 256 ^ l.length := by
    by_cases hc : c ≤ l.length
    · have e2 : (256 : Int) ^ l.length = 256 ^ (l.drop c).length * 256 ^ c := by rw [← Int.pow_add, List.length_drop]; congr 1; (first | lia | omega)
      rw [e2]
      exact Int.mul_lt_mul_of_pos_right hb.2 pc
    · have e1 : l.drop c = [] := List.drop_eq_nil_of_le (by (first | lia | omega))
      rw [e1]
      have v0 : val [] = 0 := rfl
      rw [v0, Int.zero_mul]
      exact pl
  rw [Int.add_mul, Int.one_mul]
  (first | lia | omega)
end
section
theorem dropLast_getD {l : List Int} (h0 : l.getD (l.length - 1) 0 = 0) (i : Nat) : l.dropLast.getD i 0 = l.getD i 0 := by
  by_cases hi : i < l.length - 1
  · have hi2 : i < l.length := by (first | lia | omega)
    simp [List.getD, hi, hi2]
  · have e1 : l.dropLast.getD i 0 = 0 := by simp [List.getD, List.getElem?_eq_none (show l.dropLast.length ≤ i by rw [List.length_dropLast]; (first | lia | omega))]
    rw [e1]
    by_cases h2 : i = l.length - 1
    · rw [h2, h0]
    · simp [List.getD, List.getElem?_eq_none (show l.length ≤ i by (first | lia | omega))]
theorem strip_getD : ∀ (n : Nat) (l : List Int) (i : Nat), (strip n l).getD i 0 = l.getD i 0
  | 0, _, _ => rfl
  | n + 1, l, i => by
    rw [strip]
    split
    · next h => rw [strip_getD n, dropLast_getD h.2]
    · rfl
theorem strip_octets : ∀ (n : Nat) {l : List Int}, Octets l → Octets (strip n l)
  | 0, _, h => h
  | n + 1, l, h => by
    rw [strip]
    split
    · exact strip_octets n fun x hx => h x (List.dropLast_subset _ hx)
    · exact h
theorem strip_len : ∀ (n : Nat) (l : List Int), (strip n l).length ≤ l.length
  | 0, _ => Nat.le_refl _
  | n + 1, l => by
    rw [strip]
    split
    · exact Nat.le_trans (strip_len n _) (by rw [List.length_dropLast]; (first | lia | omega))
    · exact Nat.le_refl _
theorem Wd_congr {a b : List Int} (h : ∀ i, a.getD i 0 = b.getD i 0) : ∀ c, Wd a c = Wd b c
  | 0 => rfl
  | c + 1 => by rw [Wd, Wd, Wd_congr h c, h]
/-- the octets are the fraction T / 2^(16+N) -/
noncomputable def Stream (o : List Int) (T : Int) (N : Nat) : Prop := ∀ c : Nat, Wd o c * 2 ^ (16 + N) ≤ T * 256 ^ c ∧ T * 256 ^ c < (Wd o c + 1) * 2 ^ (16 + N)
theorem last_stream {x : Enc} (h : EncOk x) (hs : 32768 ≤ x.size) : ∃ (T : Int) (N : Nat), x.n = N ∧ x.lo ≤ T ∧ T < x.lo + x.size ∧ Stream x.last T N ∧ Octets x.last ∧ x.last.length ≤ x.found.length + 2 := by
  have f := fin_ok h hs
  obtain ⟨t0, t1, _⟩ := Enc.top_in hs h.code0
  have l0 := h.left0
  have l1 := h.left1
  refine ⟨val x.found * 2 ^ (27 - x.left.toNat) + x.top, x.n.toNat, by unfold Enc.n; (first | lia | omega), by unfold Enc.lo; (first | lia | omega), by unfold Enc.lo; (first | lia | omega), ?_, strip_octets _ f.c0, Nat.le_trans (strip_len _ _) (by rw [f.c1]; exact Nat.le_refl _)⟩
  intro c
  have e0 : Wd x.last c = Wd x.fin.found c := Wd_congr (strip_getD _ _) c
  rw [e0]
  obtain ⟨b1, b2⟩ := Wd_bound f.c0 c
  have e1 := f.c2
  generalize hT : val x.found * 2 ^ (27 - x.left.toNat) + x.top = T at *
  have hN : 16 + x.n.toNat = 11 + (8 * x.found.length + 16 - x.left.toNat) := by unfold Enc.n; (first | lia | omega)
  have hL : (256 : Int) ^ x.fin.found.length = 2 ^ x.left.toNat * 2 ^ (8 * x.found.length + 16 - x.left.toNat) := by
    rw [f.c1, ← Int.pow_add, show (256 : Int) = 2 ^ 8 from rfl, ← Int.pow_mul]
    congr 1
    (first | lia | omega)
  have e2 : val x.fin.found * 2 ^ (16 + x.n.toNat) = T * 256 ^ x.fin.found.length := by
    rw [hN, Int.pow_add, hL, ← Int.mul_assoc, ← Int.mul_assoc, ← e1]
    rfl
  have pL : (0 : Int) < 256 ^ x.fin.found.length := Int.pow_pos (by decide)
  have pN : (0 : Int) < 2 ^ (16 + x.n.toNat) := Int.pow_pos (by decide)
  generalize (256 : Int) ^ x.fin.found.length = A at *
  generalize (2 : Int) ^ (16 + x.n.toNat) = M at *
  generalize (256 : Int) ^ c = C at *
  generalize val x.fin.found = v at *
  generalize Wd x.fin.found c = wd at *
  have e3 : v * C * M = T * C * A := by
    have : v * C * M = v * M * C := by simp only [Int.mul_assoc, Int.mul_left_comm, Int.mul_comm]
    rw [this, e2]
    simp only [Int.mul_assoc, Int.mul_left_comm, Int.mul_comm]
  constructor
  · have m1 := Int.mul_le_mul_of_nonneg_right b1 (Int.le_of_lt pN)
    rw [e3] at m1
    have e4 : wd * A * M = wd * M * A := by simp only [Int.mul_assoc, Int.mul_left_comm, Int.mul_comm]
    rw [e4] at m1
    exact Int.le_of_mul_le_mul_right m1 pL
  · have m1 := Int.mul_lt_mul_of_pos_right b2 pN
    rw [e3] at m1
    have e4 : (wd + 1) * A * M = (wd + 1) * M * A := by simp only [Int.mul_assoc, Int.mul_left_comm, Int.mul_comm]
    rw [e4] at m1
    exact Int.lt_of_mul_lt_mul_right m1 (Int.le_of_lt pL)
end
section
/-- the decoder stands where the encoder stood -/
structure DI (o : List Int) (n lo : Int) (y : Dec) : Prop where
  same : y.octs = o
  l0 : 0 ≤ y.left
  l1 : y.left ≤ 7
  pos : ∃ c : Nat, 2 ≤ c ∧ y.at_ = min (c : Int) (o.length : Int) ∧ 8 * ((c : Int) - 2) - y.left = n ∧ y.code = Wd o c * 2 ^ (16 - y.left.toNat) - lo * 65536
theorem DI.dbl {o : List Int} {n lo : Int} {y : Dec} (h : DI o n lo y) : DI o (n + 1) (lo * 2) y.dbl := by
  obtain ⟨hs, l0, l1, c, c2, ha, hn, hc⟩ := h
  unfold Dec.dbl
  by_cases hz : y.left = 0
  · rw [if_pos hz]
    have hi := y.inn_same
    have hw : Wd o (c + 1) = Wd o c * 256 + o.getD c 0 := rfl
    have e0 : y.left.toNat = 0 := by (first | lia | omega)
    rw [e0] at hc
    refine ⟨hi.1.trans hs, by dsimp only; (first | lia | omega), by dsimp only; (first | lia | omega), c + 1, by (first | lia | omega), ?_, by push_cast; (first | lia | omega), ?_⟩
    · show y.inn.at_ = _
      unfold Dec.inn
      rw [hs]
      split <;> (try dsimp only) <;> push_cast <;> (first | lia | omega)
    · show y.inn.code * 2 = Wd o (c + 1) * 2 ^ (16 - (7 : Int).toNat) - lo * 2 * 65536
      have e9 : (2 : Int) ^ (16 - (7 : Int).toNat) = 512 := by decide
      have e16 : (2 : Int) ^ (16 - 0) = 65536 := by decide
      rw [e9, hw]
      rw [e16] at hc
      unfold Dec.inn
      rw [hs]
      split
      · next hlt =>
        dsimp only
        have e1 : y.at_.toNat = c := by (first | lia | omega)
        rw [e1, hc]
        (first | lia | omega)
      · next hlt =>
        have e1 : o.getD c 0 = 0 := by simp [List.getD, List.getElem?_eq_none (show o.length ≤ c by (first | lia | omega))]
        rw [e1, hc]
        (first | lia | omega)
  · rw [if_neg hz]
    refine ⟨hs, by dsimp only; (first | lia | omega), by dsimp only; (first | lia | omega), c, c2, ha, by dsimp only; (first | lia | omega), ?_⟩
    dsimp only
    have e1 : (2 : Int) ^ (16 - (y.left - 1).toNat) = 2 ^ (16 - y.left.toNat) * 2 := by rw [← Int.pow_succ]; congr 1; (first | lia | omega)
    rw [e1, hc]
    generalize (2 : Int) ^ (16 - y.left.toNat) = P
    rw [← Int.mul_assoc]
    (first | lia | omega)
theorem DI.widenN {o : List Int} : ∀ (k : Nat) (x : Enc) (y : Dec), EncOk x → y.size = x.size → DI o x.n x.lo y → DI o (Enc.widenN k x).n (Enc.widenN k x).lo (Dec.widenN k y) ∧ (Dec.widenN k y).size = (Enc.widenN k x).size
  | 0, _, _, _, e, h => ⟨h, e⟩
  | k + 1, x, y, ok, e, h => by
    by_cases hlt : x.size < 32768
    · rw [widen_go hlt, dwiden_go (by rw [e]; exact hlt)]
      obtain ⟨d1, d2, d3, d4, d5⟩ := ok.dbl hlt
      have hd := h.dbl
      have e1 : x.dbl.n = x.n + 1 := by unfold Enc.n; (first | lia | omega)
      rw [← e1, ← d4] at hd
      exact DI.widenN k x.dbl y.dbl d1 (by rw [d2, y.dbl_same.2.1, e]) hd
    · rw [widen_stop hlt, dwiden_stop (by rw [e]; exact hlt)]
      exact ⟨h, e⟩
end
section
theorem key_low {o : List Int} {T : Int} {N c left : Nat} {n lo s : Int} {J : Nat} (S : Stream o T N) (hJ : n + J = N) (hn : 8 * ((c : Int) - 2) - left = n) (hl : left ≤ 7) :
    (T < (lo + s) * 2 ^ J → Wd o c * 2 ^ (16 - left) - lo * 65536 < s * 65536) ∧ ((lo + s) * 2 ^ J ≤ T → ¬ Wd o c * 2 ^ (16 - left) - lo * 65536 < s * 65536) := by
  obtain ⟨s1, s2⟩ := S c
  have e1 : (2 : Int) ^ (16 + N) * 2 ^ left = 2 ^ J * 256 ^ c := by
    rw [← Int.pow_add, show (256 : Int) = 2 ^ 8 from rfl, ← Int.pow_mul, ← Int.pow_add]
    congr 1
    (first | lia | omega)
  have e2 : (2 : Int) ^ left * 2 ^ (16 - left) = 65536 := by
    rw [← Int.pow_add, show left + (16 - left) = 16 by (first | lia | omega)]; rfl
  have pP : (0 : Int) < 2 ^ (16 - left) := Int.pow_pos (by decide)
  have pM : (0 : Int) < 2 ^ (16 + N) := Int.pow_pos (by decide)
  have pC : (0 : Int) < 256 ^ c := Int.pow_pos (by decide)
  have e3 : s * 65536 + lo * 65536 = (lo + s) * 2 ^ left * 2 ^ (16 - left) := by rw [Int.mul_assoc, e2, Int.add_mul]; (first | lia | omega)
  generalize (2 : Int) ^ (16 + N) = M at *
  generalize (2 : Int) ^ (16 - left) = P at *
  generalize (256 : Int) ^ c = C at *
  generalize (2 : Int) ^ left = LL at *
  generalize (2 : Int) ^ J = JJ at *
  generalize Wd o c = wd at *
  have e4 : (lo + s) * JJ * C = (lo + s) * LL * M := by rw [Int.mul_assoc, ← e1, Int.mul_comm M, Int.mul_assoc]
  constructor
  · intro h
    have m1 := Int.mul_lt_mul_of_pos_right h pC
    rw [e4] at m1
    have m2 : wd < (lo + s) * LL := Int.lt_of_mul_lt_mul_right (Int.lt_of_le_of_lt s1 m1) (Int.le_of_lt pM)
    have m3 := Int.mul_lt_mul_of_pos_right m2 pP
    (first | lia | omega)
  · intro h
    have m1 := Int.mul_le_mul_of_nonneg_right h (Int.le_of_lt pC)
    rw [e4] at m1
    have m2 : (lo + s) * LL < wd + 1 := Int.lt_of_mul_lt_mul_right (Int.lt_of_le_of_lt m1 s2) (Int.le_of_lt pM)
    have m3 := Int.mul_le_mul_of_nonneg_right (show (lo + s) * LL ≤ wd by (first | lia | omega)) (Int.le_of_lt pP)
    (first | lia | omega)
end
section
theorem get_right {o : List Int} {T : Int} {N n : Nat} {x : Enc} {y : Dec} {b : Bin} {k bit : Int} {J : Nat} (S : Stream o T N) (g : Good n x b) (h : DI o x.n x.lo y) (hs : y.size = x.size) (k0 : 0 ≤ k) (k1 : k < 49) (hb : bit = 0 ∨ bit = 1)
    (hJ : (encPut x b k bit).1.n + J = N) (t0 : (encPut x b k bit).1.lo * 2 ^ J ≤ T) (t1 : T < ((encPut x b k bit).1.lo + (encPut x b k bit).1.size) * 2 ^ J) :
    (decGet y b k).2.2 = bit ∧ (decGet y b k).2.1 = (encPut x b k bit).2 ∧ DI o (encPut x b k bit).1.n (encPut x b k bit).1.lo (decGet y b k).1 ∧ (decGet y b k).1.size = (encPut x b k bit).1.size := by
  have q := g.bin.st k0 k1
  have r := row_in q.1 q.2
  have z := g.bin.se k0 k1
  have hl := g.ok.lower r.1 r.2.1 g.big
  have hu := g.ok.upper r.1 r.2.1 g.big
  obtain ⟨j, p1, p2, p3⟩ := put_split g k0 k1 bit
  obtain ⟨c, c2, ca, cn, cc⟩ := h.pos
  have l0 := h.l0
  have l1 := h.l1
  have ky := key_low (s := x.size - lessOf (b.ss.getD k.toNat 0)) (lo := x.lo) (c := c) (left := y.left.toNat) (n := x.n) (J := j + J) S (by rw [p1] at hJ; push_cast; (first | lia | omega)) (by (first | lia | omega)) (by (first | lia | omega))
  rw [← cc] at ky
  have ej : (2 : Int) ^ (j + J) = 2 ^ j * 2 ^ J := Int.pow_add ..
  have lowc : isLow x b k bit → y.code < (x.size - lessOf (b.ss.getD k.toNat 0)) * 65536 := fun hi => ky.1 (by
    rw [ej, ← Int.mul_assoc, Int.add_mul, ← (p2 hi).1, ← (p2 hi).2]; exact t1)
  have highc : ¬ isLow x b k bit → ¬ y.code < (x.size - lessOf (b.ss.getD k.toNat 0)) * 65536 := fun hi => ky.2 (by
    rw [ej, ← Int.mul_assoc, ← (p3 hi).1]; exact t0)
  have dlow : DI o (x.lower (lessOf (b.ss.getD k.toNat 0))).n (x.lower (lessOf (b.ss.getD k.toNat 0))).lo { y with size := y.size - lessOf (b.ss.getD k.toNat 0) } := ⟨h.same, h.l0, h.l1, c, c2, ca, cn, cc⟩
  have dupp : DI o (x.upper (lessOf (b.ss.getD k.toNat 0))).n (x.upper (lessOf (b.ss.getD k.toNat 0))).lo { y with size := lessOf (b.ss.getD k.toNat 0), code := y.code - (y.size - lessOf (b.ss.getD k.toNat 0)) * 65536 } := by
    refine ⟨h.same, h.l0, h.l1, c, c2, ca, cn, ?_⟩
    rw [(x.upper_lo _).1]
    dsimp only
    rw [cc, hs, Int.add_mul]
    (first | lia | omega)
  have wl := DI.widenN 16 _ _ hl (show y.size - lessOf (b.ss.getD k.toNat 0) = x.size - lessOf (b.ss.getD k.toNat 0) by rw [hs]) dlow
  have wu := DI.widenN 16 _ _ hu rfl dupp
  rw [← hs] at lowc highc
  unfold decGet encPut
  dsimp only
  rw [← hs]
  by_cases e1 : bit = b.es.getD k.toNat 0
  · rw [if_pos e1]
    by_cases e2 : y.size - lessOf (b.ss.getD k.toNat 0) ≥ 32768
    · have hi : isLow x b k bit := ⟨fun _ => by rw [← hs]; (first | lia | omega), fun _ => e1⟩
      rw [if_pos (lowc hi), if_pos e2, if_pos e2]
      exact ⟨e1.symm, rfl, dlow, by rw [(x.lower_lo _).2.2]; dsimp only; rw [hs]⟩
    · rw [if_neg e2, if_neg e2]
      by_cases e3 : y.size - lessOf (b.ss.getD k.toNat 0) < lessOf (b.ss.getD k.toNat 0)
      · have hi : ¬ isLow x b k bit := fun hy => absurd (hy.mp e1) (by rw [← hs]; (first | lia | omega))
        rw [if_neg (highc hi), if_pos e3, if_pos e3]
        exact ⟨e1.symm, rfl, wu.1, wu.2⟩
      · have hi : isLow x b k bit := ⟨fun _ => by rw [← hs]; (first | lia | omega), fun _ => e1⟩
        rw [if_pos (lowc hi), if_neg e3, if_pos (by (first | lia | omega))]
        exact ⟨e1.symm, rfl, wl.1, wl.2⟩
  · rw [if_neg e1]
    have e9 : 1 - b.es.getD k.toNat 0 = bit := by (first | lia | omega)
    by_cases e3 : y.size - lessOf (b.ss.getD k.toNat 0) ≥ lessOf (b.ss.getD k.toNat 0)
    · have hi : ¬ isLow x b k bit := fun hy => e1 (hy.mpr (by rw [← hs]; exact e3))
      rw [if_neg (highc hi), if_neg (by (first | lia | omega)), if_pos e3]
      exact ⟨e9, rfl, wu.1, wu.2⟩
    · have hi : isLow x b k bit := ⟨fun h => absurd h e1, fun h => absurd h (by rw [← hs]; exact e3)⟩
      rw [if_pos (lowc hi), if_neg (by (first | lia | omega)), if_neg e3, if_neg e3]
      exact ⟨e9, rfl, wl.1, wl.2⟩
end
section
theorem step_at {o : List Int} {y : Dec} {c : Nat} (hs : y.octs = o) (ha : y.at_ = min (c : Int) (o.length : Int)) : (Dec.step y).octs = o ∧ (Dec.step y).size = y.size ∧ (Dec.step y).left = y.left ∧ (Dec.step y).at_ = min ((c + 1 : Nat) : Int) (o.length : Int) ∧ (Dec.step y).code = (y.code + o.getD c 0 * 256) * 256 := by
  have hi := y.inn_same
  refine ⟨hi.1.trans hs, hi.2.1, hi.2.2.1, ?_, ?_⟩
  · show y.inn.at_ = _
    unfold Dec.inn
    rw [hs]
    split <;> (try dsimp only) <;> push_cast <;> (first | lia | omega)
  · show y.inn.code * 256 = _
    unfold Dec.inn
    rw [hs]
    split
    · next hlt =>
      dsimp only
      have e1 : y.at_.toNat = c := by (first | lia | omega)
      rw [e1]
    · next hlt =>
      have e1 : o.getD c 0 = 0 := by simp [List.getD, List.getElem?_eq_none (show o.length ≤ c by (first | lia | omega))]
      rw [e1]
      (first | lia | omega)
theorem dec0_at (o : List Int) : DI o enc0.n enc0.lo (dec0 o) ∧ (dec0 o).size = enc0.size ∧ (dec0 o).octs = o ∧ 0 ≤ (dec0 o).at_ := by
  obtain ⟨a1, a2, a3, a4, a5⟩ := step_at (o := o) (y := ⟨o, 0, 65536, 0, 0⟩) (c := 0) rfl (by dsimp only; (first | lia | omega))
  obtain ⟨b1, b2, b3, b4, b5⟩ := step_at (o := o) (y := Dec.step ⟨o, 0, 65536, 0, 0⟩) (c := 1) a1 a4
  have e : dec0 o = Dec.step (Dec.step ⟨o, 0, 65536, 0, 0⟩) := rfl
  have l : (dec0 o).left = 0 := by rw [e, b3, a3]
  have n0 : enc0.n = 0 := by decide
  have lo0 : enc0.lo = 0 := by decide
  refine ⟨⟨b1, by (first | lia | omega), by (first | lia | omega), 2, Nat.le_refl _, b4, by rw [l, n0]; decide, ?_⟩, by rw [e, b2, a2]; rfl, b1, by rw [e, b4]; (first | lia | omega)⟩
  have w2 : Wd o 2 = (0 * 256 + o.getD 0 0) * 256 + o.getD 1 0 := rfl
  rw [l, lo0, e, b5, a5, w2]
  have e16 : (2 : Int) ^ (16 - (0 : Int).toNat) = 65536 := by decide
  rw [e16]
  dsimp only
  (first | lia | omega)
/-- many decisions, read one by one -/
noncomputable def decRun : Dec → Bin → List (Int × Int) → Dec × Bin
  | y, b, [] => (y, b)
  | y, b, d :: ds => decRun (decGet y b d.1).1 (decGet y b d.1).2.1 ds
/-- the decoder's answers are the decisions -/
noncomputable def Reads2 : Dec → Bin → List (Int × Int) → Prop
  | _, _, [] => True
  | y, b, d :: ds => (decGet y b d.1).2.2 = d.2 ∧ Reads2 (decGet y b d.1).1 (decGet y b d.1).2.1 ds
theorem reads_back {o : List Int} {T : Int} {N : Nat} (S : Stream o T N) : ∀ (ds : List (Int × Int)) {n : Nat} {x : Enc} {b : Bin} {y : Dec}, Good n x b → Decs ds → (∀ d ∈ ds, d.2 = 0 ∨ d.2 = 1) → DI o x.n x.lo y → y.size = x.size →
    (encRun (x, b) ds).1.n = N → (encRun (x, b) ds).1.lo ≤ T → T < (encRun (x, b) ds).1.lo + (encRun (x, b) ds).1.size → Reads2 y b ds
  | [], _, _, _, _, _, _, _, _, _, _, _, _ => trivial
  | d :: ds, n, x, b, y, g, hd, hb, h, hs, hN, t0, t1 => by
    have h1 := hd d (by simp)
    have g2 := g.put h1.1 h1.2 d.2
    have hd2 : Decs ds := fun e he => hd e (by simp [he])
    rw [encRun_cons] at hN t0 t1
    obtain ⟨J, r1, r2, r3⟩ := run_nest ds g2 hd2
    have q := get_right S g h hs h1.1 h1.2 (hb d (by simp)) (J := J) (by rw [← r1]; exact hN) (Int.le_trans r2 t0) (Int.lt_of_lt_of_le t1 r3)
    refine ⟨q.1, ?_⟩
    rw [q.2.1]
    exact reads_back S ds g2 hd2 (fun e he => hb e (by simp [he])) q.2.2.1 q.2.2.2 hN t0 t1
end
section
theorem reads_append : ∀ (a c : List (Int × Int)) (y : Dec) (b : Bin), Reads2 y b (a ++ c) → Reads2 y b a ∧ Reads2 (decRun y b a).1 (decRun y b a).2 c
  | [], _, _, _, h => ⟨trivial, h⟩
  | d :: a, c, y, b, h => by
    obtain ⟨h1, h2⟩ := h
    obtain ⟨r1, r2⟩ := reads_append a c _ _ h2
    exact ⟨⟨h1, r1⟩, r2⟩
theorem decRun_append : ∀ (a c : List (Int × Int)) (y : Dec) (b : Bin), decRun y b (a ++ c) = decRun (decRun y b a).1 (decRun y b a).2 c
  | [], _, _, _ => rfl
  | d :: a, c, y, b => decRun_append a c _ _
theorem up_read : ∀ (n : Nat) (y : Dec) (b : Bin) (hi a r : Int), 1 ≤ hi → r < 32768 → r < hi * 2 ^ (n + 1) → hi ≤ r → Reads2 y b (upDecs n hi a r) →
    getUp (n + 1) y b hi a = some ((decRun y b (upDecs n hi a r)).1, (decRun y b (upDecs n hi a r)).2, (upEnd n hi a r).1, (upEnd n hi a r).2)
  | 0, y, b, hi, a, r, h1, h2, h3, h4, hr => by
    have e : upDecs 0 hi a r = [(a, 0)] := rfl
    rw [e] at hr ⊢
    rw [getUp, hr.1, if_neg (show ¬ (0 : Int) = 1 by decide)]
    rfl
  | n + 1, y, b, hi, a, r, h1, h2, h3, h4, hr => by
    by_cases hg : r ≥ 2 * hi
    · obtain ⟨e1, e2⟩ := upDecs_go (n := n) (a := a) hg
      rw [e1] at hr ⊢
      rw [e2]
      have e9 := Int.pow_succ 2 (n + 1)
      have ih := up_read n (decGet y b a).1 (decGet y b a).2.1 (hi * 2) (a + 1) r (by (first | lia | omega)) h2 (by rw [Int.mul_assoc, Int.mul_comm 2, ← e9]; exact h3) (by (first | lia | omega)) hr.2
      rw [getUp, hr.1, if_pos rfl, if_neg (by (first | lia | omega)), ih]
      rfl
    · obtain ⟨e1, e2⟩ := upDecs_stop (n := n + 1) (a := a) hg
      rw [e1] at hr ⊢
      rw [e2, getUp, hr.1, if_neg (show ¬ (0 : Int) = 1 by decide)]
      rfl
theorem size_read {y : Dec} {b : Bin} {rest k : Int} (r0 : 0 ≤ rest) (r1 : rest < 32768) (hr : Reads2 y b (sizeDecs rest k)) :
    getSize y b k = some ((decRun y b (sizeDecs rest k)).1, (decRun y b (sizeDecs rest k)).2, (sizeEnd rest k).1, (sizeEnd rest k).2) := by
  unfold getSize
  by_cases h : rest > 0
  · have e1 : sizeDecs rest k = (k, 1) :: upDecs 15 1 20 rest := by unfold sizeDecs; rw [if_pos h]
    have e2 : sizeEnd rest k = upEnd 15 1 20 rest := by unfold sizeEnd; rw [if_pos h]
    rw [e1] at hr ⊢
    rw [e2, hr.1, if_neg (show ¬ (1 : Int) = 0 by decide)]
    exact up_read 15 _ _ 1 20 rest (by decide) r1 (by simp; (first | lia | omega)) (by (first | lia | omega)) hr.2
  · have e1 : sizeDecs rest k = [(k, 0)] := by unfold sizeDecs; rw [if_neg h]
    have e2 : sizeEnd rest k = (0, k) := by unfold sizeEnd; rw [if_neg h]
    rw [e1] at hr ⊢
    rw [e2, hr.1, if_pos rfl]
    rfl
end
section
theorem mod_step (r P : Int) (hP : 0 < P) : r % (P * 2) = r / P % 2 * P + r % P := by
  have h1 := Int.mul_ediv_add_emod r (P * 2)
  have h2 := Int.mul_ediv_add_emod r P
  have h3 := Int.mul_ediv_add_emod (r / P) 2
  have h4 : r / (P * 2) = r / P / 2 := (Int.ediv_ediv_of_nonneg (Int.le_of_lt hP)).symm
  rw [h4] at h1
  generalize r / P / 2 = u at *
  generalize r / P = q at *
  have e : q % 2 * P = q * P - 2 * u * P := by rw [← Int.sub_mul]; congr 1; (first | lia | omega)
  rw [e]
  have e2 : P * 2 * u = 2 * u * P := by simp only [Int.mul_assoc, Int.mul_left_comm, Int.mul_comm]
  have e3 : P * q = q * P := Int.mul_comm ..
  (first | lia | omega)
theorem bits_read (a r : Int) : ∀ (j n : Nat) (y : Dec) (b : Bin) (acc : Int), j ≤ n → Reads2 y b (bitDecs n (2 ^ j) a r) →
    getBits n y b a (2 ^ j) acc = ((decRun y b (bitDecs n (2 ^ j) a r)).1, (decRun y b (bitDecs n (2 ^ j) a r)).2, acc + r % 2 ^ j)
  | 0, n, y, b, acc, _, _ => by
    rw [bitDecs_stop (by decide), getBits_stop (by decide)]
    simp [decRun, Int.emod_one]
  | j + 1, 0, _, _, _, h, _ => by (first | lia | omega)
  | j + 1, n + 1, y, b, acc, h, hr => by
    have e1 := Int.pow_succ 2 j
    have e2 : (0 : Int) < 2 ^ j := Int.pow_pos (by decide)
    have e3 : (2 : Int) ^ (j + 1) / 2 = 2 ^ j := by (first | lia | omega)
    have hd : bitDecs (n + 1) (2 ^ (j + 1)) a r = (a, r / 2 ^ j % 2) :: bitDecs n (2 ^ j) a r := by rw [bitDecs_go (by (first | lia | omega)), e3]
    rw [hd] at hr ⊢
    rw [getBits_go (by (first | lia | omega)), e3, bits_read a r j n _ _ _ (by (first | lia | omega)) hr.2, hr.1, e1, mod_step r _ e2]
    have e4 : decRun y b ((a, r / 2 ^ j % 2) :: bitDecs n (2 ^ j) a r) = decRun (decGet y b a).1 (decGet y b a).2.1 (bitDecs n (2 ^ j) a r) := rfl
    rw [e4]
    congr 2
    have e5 : r / 2 ^ j % 2 = 0 ∨ r / 2 ^ j % 2 = 1 := by (first | lia | omega)
    generalize hz : r / 2 ^ j % 2 = z at *
    rcases e5 with rfl | rfl
    · rw [if_neg (show ¬ (0 : Int) = 1 by decide)]; (first | lia | omega)
    · rw [if_pos rfl]; (first | lia | omega)
theorem number_read {y : Dec} {b : Bin} {rest k : Int} (r0 : 0 ≤ rest) (r1 : rest < 32768) (hr : Reads2 y b (bitDecs 15 (sizeEnd rest k).1 ((sizeEnd rest k).2 + 14) rest)) :
    getBits 15 y b ((sizeEnd rest k).2 + 14) (sizeEnd rest k).1 (sizeEnd rest k).1 = ((decRun y b (bitDecs 15 (sizeEnd rest k).1 ((sizeEnd rest k).2 + 14) rest)).1, (decRun y b (bitDecs 15 (sizeEnd rest k).1 ((sizeEnd rest k).2 + 14) rest)).2, rest) := by
  by_cases h : 0 < rest
  · obtain ⟨m, B, e1, _⟩ := size_spec (k := k) h r1
    rw [e1] at hr ⊢
    have m1 := B.m1
    have m2 := B.m2
    rw [bits_read _ rest (m - 1) 15 y b _ (by (first | lia | omega)) hr]
    congr 2
    have lo := B.lo
    have hi := B.hi
    have e2 : (2 : Int) ^ m = 2 ^ (m - 1) * 2 := by rw [← Int.pow_succ]; congr 1; (first | lia | omega)
    rw [e2] at hi
    have e3 : (rest - 2 ^ (m - 1)) % 2 ^ (m - 1) = rest - 2 ^ (m - 1) := Int.emod_eq_of_lt (by (first | lia | omega)) (by (first | lia | omega))
    have e4 : (rest - 2 ^ (m - 1)) % 2 ^ (m - 1) = rest % 2 ^ (m - 1) := Int.sub_emod_right _ _
    (first | lia | omega)
  · have e : rest = 0 := by (first | lia | omega)
    subst e
    have e1 : sizeEnd 0 k = (0, k) := by simp [sizeEnd]
    rw [e1]
    dsimp only
    rw [bitDecs_stop (show ¬ (0 : Int) > 1 by decide), getBits_stop (show ¬ (0 : Int) > 1 by decide)]
    rfl
end
section
theorem ones_refused : ∀ (j n : Nat) (y : Dec) (b : Bin) (hi a : Int), hi * 2 ^ (j + 1) = 32768 → Reads2 y b ((List.range (j + 1)).map (fun i : Nat => (a + (i : Int), (1 : Int)))) → getUp (n + j + 1) y b hi a = none
  | 0, n, y, b, hi, a, h, hr => by
    have e : (List.range (0 + 1)).map (fun i : Nat => (a + (i : Int), (1 : Int))) = [(a, 1)] := by simp
    rw [e] at hr
    have h2 : hi * 2 ≥ 32768 := by simp at h; (first | lia | omega)
    rw [getUp, hr.1, if_pos rfl, if_pos h2]
  | j + 1, n, y, b, hi, a, h, hr => by
    have e : (List.range (j + 1 + 1)).map (fun i : Nat => (a + (i : Int), (1 : Int))) = (a, 1) :: (List.range (j + 1)).map (fun i : Nat => (a + 1 + (i : Int), (1 : Int))) := by
      rw [List.range_succ_eq_map]
      simp only [List.map_cons, List.map_map]
      congr 1
      · simp
      · apply List.map_congr_left
        intro i _
        simp only [Function.comp]
        congr 1
        push_cast
        (first | lia | omega)
    rw [e] at hr
    have e9 := Int.pow_succ 2 (j + 1)
    have h3 : hi * 2 * 2 ^ (j + 1) = 32768 := by rw [Int.mul_assoc, Int.mul_comm 2, ← e9]; exact h
    have h4 := ones_refused j n (decGet y b a).1 (decGet y b a).2.1 (hi * 2) (a + 1) h3 hr.2
    rw [show n + (j + 1) + 1 = (n + j + 1) + 1 by (first | lia | omega), getUp, hr.1, if_pos rfl]
    split
    · rfl
    · exact h4
theorem size_refused {y : Dec} {b : Bin} {k : Int} (hr : Reads2 y b ((k, 1) :: (List.range 15).map (fun i : Nat => (20 + (i : Int), (1 : Int))))) : getSize y b k = none := by
  unfold getSize
  rw [hr.1, if_neg (show ¬ (1 : Int) = 0 by decide)]
  exact ones_refused 14 1 _ _ 1 20 (by decide) hr.2
end
section
/-- a list's iterator at place i -/
noncomputable def LI (p : Addr) (i : Nat) (o : Obj) : Prop := o.cls = .type "list_iterator" ∧ o.data = .fields #[.ref p, .int i 0]
section
variable {prog : Program} {w : World} {A : Around} {E : Value → Shared → Prop} {s : Shared} {h₀ : Heap} {L : Addr} {m : Str → Option Value} {news rest : List (Addr × Obj)}
theorem iterD {p : Addr} {vs : Array Value} {n : Nat} {Q : Value → Shared → Prop} (F : Fr h₀ L s.heap m) (N : News h₀ L s.heap news) (hm : (p, listOf vs n) ∈ news)
    (h : ∀ I o h', LI p 0 o → Fr h₀ L h' m → News h₀ L h' ((I, o) :: news) → (∀ q ∈ news, q.1 ≠ I) → Q (.ref I) { s with heap := h' }) : wpAny (model prog w) A (pyIter (.ref p)) Q E s :=
  wpAny_pyIter_list (newsList N hm) (h _ _ _ ⟨rfl, rfl⟩ (F.push _) (N.push F _) fun q hq => Nat.ne_of_lt (Heap.lt_size (N q hq).1))
theorem nextD {p I : Addr} {o : Obj} {vs : Array Value} {n i : Nat} {x : Value} {Q : Option Value → Shared → Prop} (F : Fr h₀ L s.heap m) (N : News h₀ L s.heap ((I, o) :: rest)) (hI : LI p i o) (hm : (p, listOf vs n) ∈ rest) (hne : ∀ q ∈ rest, q.1 ≠ I) (hx : vs[i]? = some x)
    (h : ∀ o' h', LI p (i + 1) o' → Fr h₀ L h' m → News h₀ L h' ((I, o') :: rest) → Q (some x) { s with heap := h' }) : wpAny (model prog w) A (pyNext (.ref I)) Q E s := by
  have z := N (I, o) (.head _)
  refine wpAny_pyNext_list_item ⟨o, z.1, hI.1, hI.2⟩ (newsList N (.tail _ hm)) hx fun h' hit hsb => ?_
  obtain ⟨o', e1, e2, e3⟩ := hit
  refine h o' h' ⟨e2, e3⟩ ?_ fun q hq => ?_
  · refine ⟨F.ns.at' fun o e => (hsb.2 L (Ne.symm z.2.1)).trans e, fun b o e => (hsb.2 b fun q => ?_).trans (F.keep b o e), F.above⟩
    subst q
    have := z.2.2
    dsimp only at this
    rw [this] at e
    cases e
  · rcases List.mem_cons.mp hq with rfl | hq
    · exact ⟨e1, z.2⟩
    · exact ⟨(hsb.2 q.1 (hne q hq)).trans (N q (.tail _ hq)).1, (N q (.tail _ hq)).2⟩
theorem nextEndD {p I : Addr} {o : Obj} {vs : Array Value} {n i : Nat} {Q : Option Value → Shared → Prop} (hh : A.handled = none) (F : Fr h₀ L s.heap m) (N : News h₀ L s.heap ((I, o) :: rest)) (hI : LI p i o) (hm : (p, listOf vs n) ∈ rest) (hne : ∀ q ∈ rest, q.1 ≠ I) (hx : vs[i]? = none)
    (h : ∀ h', Fr h₀ L h' m → News h₀ L h' rest → Q none { s with heap := h' }) : wpAny (model prog w) A (pyNext (.ref I)) Q E s := by
  have z := N (I, o) (.head _)
  refine wpAny_pyNext_list_end hh ⟨o, z.1, hI.1, hI.2⟩ (newsList N (.tail _ hm)) hx fun h' hsb => ?_
  refine h h' ?_ fun q hq => ⟨hsb q.1 q.2 (hne q hq) (N q (.tail _ hq)).1, (N q (.tail _ hq)).2⟩
  refine ⟨F.ns.at' fun o e => hsb L o (Ne.symm z.2.1) e, fun b o e => hsb b o (fun q => ?_) (F.keep b o e), F.above⟩
  subst q
  have := z.2.2
  dsimp only at this
  rw [this] at e
  cases e
end
end
section
theorem lawDecs_ok {r k : Int} (r0 : 0 ≤ r) (r1 : r < 32768) (k0 : 0 ≤ k) (k1 : k < 20) : Decs (lawDecs r k) ∧ (lawDecs r k).length ≤ 40 ∧ ∀ d ∈ lawDecs r k, d.2 = 0 ∨ d.2 = 1 := by
  have hb := bitsOf_le r0 r1
  have key : ∀ d ∈ lawDecs r k, (0 ≤ d.1 ∧ d.1 < 49) ∧ (d.2 = 0 ∨ d.2 = 1) := by
    intro d hd
    unfold lawDecs at hd
    split at hd
    · rcases List.mem_singleton.mp hd with rfl
      exact ⟨⟨k0, by dsimp only; (first | lia | omega)⟩, .inl rfl⟩
    · simp only [List.mem_append, List.mem_cons, List.not_mem_nil, or_false, List.mem_map, List.mem_range] at hd
      rcases hd with ((h | ⟨i, hi, h⟩) | h) | ⟨i, hi, h⟩
      · subst h; exact ⟨⟨k0, by dsimp only; (first | lia | omega)⟩, .inr rfl⟩
      · subst h; exact ⟨⟨by dsimp only; (first | lia | omega), by dsimp only; (first | lia | omega)⟩, .inr rfl⟩
      · subst h; exact ⟨⟨by dsimp only; (first | lia | omega), by dsimp only; (first | lia | omega)⟩, .inl rfl⟩
      · subst h; exact ⟨⟨by dsimp only; (first | lia | omega), by dsimp only; (first | lia | omega)⟩, by dsimp only; (first | lia | omega)⟩
  refine ⟨fun d hd => (key d hd).1, ?_, fun d hd => (key d hd).2⟩
  unfold lawDecs
  split
  · simp
  · simp only [List.length_append, List.length_cons, List.length_nil, List.length_map, List.length_range]
    (first | lia | omega)
noncomputable def numDs (r1 a1 r2 a2 : Int) : Nat → List (Int × Int)
  | 0 => []
  | 1 => lawDecs r1 a1
  | _ => lawDecs r1 a1 ++ lawDecs r2 a2
theorem Decs.append {a b : List (Int × Int)} (h : Decs a) (h' : Decs b) : Decs (a ++ b) := fun d hd => (List.mem_append.mp hd).elim (h d) (h' d)
theorem Decs.take {a : List (Int × Int)} (h : Decs a) (j : Nat) : Decs (a.take j) := fun d hd => h d (List.mem_of_mem_take hd)
theorem numDs_ok {r1 a1 r2 a2 : Int} (q1 : 0 ≤ r1) (q2 : r1 < 32768) (q3 : 0 ≤ a1) (q4 : a1 < 20) (q5 : 0 ≤ r2) (q6 : r2 < 32768) (q7 : 0 ≤ a2) (q8 : a2 < 20) (i : Nat) : Decs (numDs r1 a1 r2 a2 i) ∧ (numDs r1 a1 r2 a2 i).length ≤ 80 ∧ ∀ d ∈ numDs r1 a1 r2 a2 i, d.2 = 0 ∨ d.2 = 1 := by
  have h1 := lawDecs_ok q1 q2 q3 q4
  have h2 := lawDecs_ok q5 q6 q7 q8
  match i with
  | 0 => exact ⟨(fun d hd => nomatch hd), Nat.zero_le _, (fun d hd => nomatch hd)⟩
  | 1 => exact ⟨h1.1, Nat.le_trans h1.2.1 (by decide), h1.2.2⟩
  | i + 2 => exact ⟨h1.1.append h2.1, by show (lawDecs r1 a1 ++ lawDecs r2 a2).length ≤ 80; rw [List.length_append]; (first | lia | omega), fun d hd => (List.mem_append.mp hd).elim (h1.2.2 d) (h2.2.2 d)⟩
theorem good_run {n : Nat} {x : Enc} {b : Bin} {ds : List (Int × Int)} (g : Good n x b) (hd : Decs ds) {N : Nat} (h : n + 16 * ds.length ≤ N) : Good N (encRun (x, b) ds).1 (encRun (x, b) ds).2 := (g.run hd).up h
theorem run_take (q : Enc × Bin) {ds : List (Int × Int)} {j : Nat} {d : Int × Int} (h : ds[j]? = some d) : encRun q (ds.take (j + 1)) = encPut (encRun q (ds.take j)).1 (encRun q (ds.take j)).2 d.1 d.2 := by
  rw [List.take_add_one, h, encRun_append]
  rfl
theorem num_pick {p1 p2 : Addr} {r1 a1 r2 a2 : Int} {u1 u2 u3 u4 : Tok} (q1 : 0 ≤ r1) (q2 : r1 < 32768) (q3 : 0 ≤ a1) (q4 : a1 < 20) (q5 : 0 ≤ r2) (q6 : r2 < 32768) (q7 : 0 ≤ a2) (q8 : a2 < 20) {i : Nat} (hi : i < 2) :
    ∃ (p : Addr) (r a : Int) (ur ua : Tok), (#[Value.ref p1, .ref p2])[i]? = some (.ref p) ∧ ((p, tupV [.int r ur, .int a ua]) = (p1, tupV [.int r1 u1, .int a1 u2]) ∨ (p, tupV [.int r ur, .int a ua]) = (p2, tupV [.int r2 u3, .int a2 u4])) ∧
      numDs r1 a1 r2 a2 (i + 1) = numDs r1 a1 r2 a2 i ++ lawDecs r a ∧ 0 ≤ r ∧ r < 32768 ∧ 0 ≤ a ∧ a < 20 := by
  match i, hi with
  | 0, _ => exact ⟨p1, r1, a1, u1, u2, rfl, .inl rfl, rfl, q1, q2, q3, q4⟩
  | 1, _ => exact ⟨p2, r2, a2, u3, u4, rfl, .inr rfl, rfl, q5, q6, q7, q8⟩
/-- where an encoder and its bins lie -/
noncomputable abbrev bothA (c : EncAt) (d : BinAt) : List Addr := [c.e, c.d, c.f, d.e, d.d, d.s, d.t]
theorem bothJoin {h₀ h h' : Heap} {L : Addr} {c : EncAt} {d : BinAt} {x x' : Enc} {t1 t2 t3 t1' t2' t3' : Tok} {vs ws vs' ws' : List Value} {n1 n2 n1' n2' : Nat} {R : List (Addr × Obj)} (N : News h₀ L h R)
    (N' : News h₀ L h' (bothL c x' t1' t2' t3' d vs' ws' n1' n2')) (K : Keeps ((bothL c x t1 t2 t3 d vs ws n1 n2).map (·.1)) h h') (hs : ∀ q ∈ R, ∀ a ∈ bothA c d, q.1 ≠ a) : News h₀ L h' (bothL c x' t1' t2' t3' d vs' ws' n1' n2' ++ R) := fun p hp => by
  rcases List.mem_append.mp hp with q | q
  · exact N' p q
  · exact ⟨K _ _ (N p q).1 (fun hm => hs p q p.1 hm rfl), (N p q).2⟩
theorem tsD_get {ts : List T5} {j : Nat} {t : T5} (h : ts[j]? = some t) : (tsD ts)[j]? = some (t.2.1.1, t.2.2.1) := by unfold tsD; rw [List.getElem?_map, h]; rfl
theorem tsV_get {ts : List T5} {j : Nat} {t : T5} (h : ts[j]? = some t) : (tsV ts).toArray[j]? = some (.ref t.1) := by rw [List.getElem?_toArray, List.getElem?_map, h]; rfl
theorem tsL_mem {ts : List T5} {j : Nat} {t : T5} (h : ts[j]? = some t) : (t.1, tObj t) ∈ tsL ts := List.mem_map.mpr ⟨t, List.mem_of_getElem? h, rfl⟩
theorem listObj_inj {vs ws : List Value} {n m : Nat} (h : listOf vs.toArray n = listOf ws.toArray m) : vs = ws := by
  have h2 : (listOf vs.toArray n).data = (listOf ws.toArray m).data := congrArg Obj.data h
  injection (show Data.seq vs.toArray n = Data.seq ws.toArray m from h2) with h3 h4
  simpa using h3
end
section
theorem wpC.consP {M : Model} {A : Around} {E : Value → Shared → Prop} {s : Shared} {env : Env} {st : Stmt} {rest : List Stmt} {Q : Flow → Shared → Prop} (P : Shared → Prop)
    (h1 : wpAny M A (exec st env) (fun f s' => Stop (f = .next ∧ P s')) E s) (h2 : ∀ s', P s' → wpC M A (execs rest env) Q E s') : wpC M A (execs (st :: rest) env) Q E s :=
  .execs_cons (.of (wpAny_mono h1 (fun f s' h => by obtain ⟨rfl, hp⟩ := h; exact h2 s' hp) fun _ _ x => x))
theorem newsLt {h₀ h : Heap} {L : Addr} {news : List (Addr × Obj)} (N : News h₀ L h news) {a : Addr} {o : Obj} (hm : (a, o) ∈ news) : @LT.lt Nat _ a h.objs.size := Heap.lt_size (N _ hm).1
theorem newsJoin {h₀ h h' : Heap} {L : Addr} {A B : List (Addr × Obj)} (N : News h₀ L h A) (NB : News h₀ L h' B) (K : Keeps [] h h') : News h₀ L h' (A ++ B) :=
  news_after (A := []) N NB K fun p hp => (List.mem_append.mp hp).elim (fun q => .inr ⟨q, by simp⟩) .inl
theorem size22 : sizeEnd 2 2 = (2, 21) := by decide
theorem enc0_good : EncOk enc0 := ⟨by decide, by decide, by decide, by decide, by decide, by decide, (fun x h => nomatch h), by decide⟩
noncomputable def bin0 : Bin := ⟨List.replicate 49 0, List.replicate 49 0⟩
theorem bin0_ok : BinOk bin0 := ⟨rfl, rfl, fun x h => by rw [List.eq_of_mem_replicate h]; decide, fun x h => by rw [List.eq_of_mem_replicate h]; decide⟩
theorem good0 : Good 0 enc0 bin0 := ⟨enc0_good, by decide, by decide, bin0_ok⟩
theorem neAll {news : List (Addr × Obj)} {I : Addr} (h : ∀ q ∈ news, q.1 ≠ I) : ∀ a ∈ news.map (·.1), a ≠ I := fun a ha => by
  obtain ⟨q, hq, rfl⟩ := List.mem_map.mp ha
  exact h q hq
theorem bothA_in {c : EncAt} {d : BinAt} (o : apart c d) : ∀ a ∈ bothA c d, @LE.le Nat _ c.d a ∧ @LE.le Nat _ a d.t := fun a ha => by
  obtain ⟨⟨o1, o2⟩, o3, o4, o5, o6⟩ := o
  simp only [List.mem_cons, List.not_mem_nil, or_false] at ha
  rcases ha with h | h | h | h | h | h | h <;> subst h <;> exact ⟨by (first | lia | omega), by (first | lia | omega)⟩
theorem neLt {a b : Addr} (h : @LT.lt Nat _ a b) : a ≠ b := fun e => absurd (e ▸ h) (Nat.lt_irrefl _)
theorem sepOf {R : List (Addr × Obj)} {A B : List Addr} (h : ∀ a ∈ A, ∀ b ∈ B, a ≠ b) (e : R.map (·.1) = A) : ∀ q ∈ R, ∀ b ∈ B, q.1 ≠ b := fun q hq => h q.1 (e ▸ List.mem_map_of_mem hq)
theorem ints_refs {vs : List Value} {l : List Int} {ts : List T5} (h : IntsAre vs l) (hl : l.length = 49) (e : tsV ts = vs) : False := by
  subst e
  cases ts with
  | nil => cases h; cases hl
  | cons t ts => cases h
theorem decsSep {h₀ h : Heap} {L lst : Addr} {c : EncAt} {d : BinAt} {x : Enc} {t1 t2 t3 : Tok} {vs ws : List Value} {n1 n2 nn : Nat} {R : List (Addr × Obj)} {ts : List T5} {b : Bin} (N : News h₀ L h (bothL c x t1 t2 t3 d vs ws n1 n2 ++ R ++ decsL lst ts nn))
    (hb : BinOk b) (hv : IntsAre vs b.ss) (hw : IntsAre ws b.es) : ∀ q ∈ decsL lst ts nn, ∀ a ∈ bothA c d, q.1 ≠ a := by
  intro q hq a ha
  have m1 : ∀ p ∈ bothL c x t1 t2 t3 d vs ws n1 n2, p ∈ bothL c x t1 t2 t3 d vs ws n1 n2 ++ R ++ decsL lst ts nn := fun p hp => List.mem_append_left _ (List.mem_append_left _ hp)
  have m2 := List.mem_append_right (bothL c x t1 t2 t3 d vs ws n1 n2 ++ R) hq
  rcases List.mem_cons.mp hq with rfl | hq'
  · simp only [List.mem_cons, List.not_mem_nil, or_false] at ha
    rcases ha with h | h | h | h | h | h | h <;> subst h
    · exact newsNe N m2 (m1 _ (.head _)) (by intro e; cases e)
    · exact newsNe N m2 (m1 _ (.tail _ (.head _))) (by intro e; exact absurd (Value.type.inj e) (by decide))
    · exact newsNe N m2 (m1 _ (.tail _ (.tail _ (.head _)))) (by intro e; exact absurd (Value.type.inj e) (by decide))
    · exact newsNe N m2 (m1 _ (.tail _ (.tail _ (.tail _ (.head _))))) (by intro e; cases e)
    · exact newsNe N m2 (m1 _ (.tail _ (.tail _ (.tail _ (.tail _ (.head _)))))) (by intro e; exact absurd (Value.type.inj e) (by decide))
    · intro e
      have e1 := (N _ m2).1
      rw [show (lst, listOf (tsV ts).toArray nn).1 = d.s from e] at e1
      exact ints_refs hv hb.ls (listObj_inj (Option.some.inj (e1.symm.trans (N (d.s, listOf vs.toArray n1) (m1 _ (by simp))).1)))
    · intro e
      have e1 := (N _ m2).1
      rw [show (lst, listOf (tsV ts).toArray nn).1 = d.t from e] at e1
      exact ints_refs hw hb.le (listObj_inj (Option.some.inj (e1.symm.trans (N (d.t, listOf ws.toArray n2) (m1 _ (by simp))).1)))
  · obtain ⟨t, _, rfl⟩ := List.mem_map.mp hq'
    simp only [List.mem_cons, List.not_mem_nil, or_false] at ha
    rcases ha with h | h | h | h | h | h | h <;> subst h
    · exact newsNe N m2 (m1 _ (.head _)) (by intro e; cases e)
    · exact newsNe N m2 (m1 _ (.tail _ (.head _))) (by intro e; exact absurd (Value.type.inj e) (by decide))
    · exact newsNe N m2 (m1 _ (.tail _ (.tail _ (.head _)))) (by intro e; exact absurd (Value.type.inj e) (by decide))
    · exact newsNe N m2 (m1 _ (.tail _ (.tail _ (.tail _ (.head _))))) (by intro e; cases e)
    · exact newsNe N m2 (m1 _ (.tail _ (.tail _ (.tail _ (.tail _ (.head _)))))) (by intro e; exact absurd (Value.type.inj e) (by decide))
    · exact newsNe N m2 (m1 _ (.tail _ (.tail _ (.tail _ (.tail _ (.tail _ (.head _))))))) (by intro e; exact absurd (Value.type.inj e) (by decide))
    · exact newsNe N m2 (m1 _ (.tail _ (.tail _ (.tail _ (.tail _ (.tail _ (.tail _ (.head _)))))))) (by intro e; exact absurd (Value.type.inj e) (by decide))
theorem neBoth {J : Addr} {c : EncAt} {d : BinAt} {x : Enc} {t1 t2 t3 : Tok} {vs ws : List Value} {n1 n2 : Nat} {R : List (Addr × Obj)} (h1 : ∀ a ∈ bothA c d, a ≠ J) (h2 : ∀ q ∈ R, q.1 ≠ J) : ∀ q ∈ bothL c x t1 t2 t3 d vs ws n1 n2 ++ R, q.1 ≠ J := fun q hq => by
  rcases List.mem_append.mp hq with h | h
  · exact h1 q.1 (List.mem_map_of_mem (f := Prod.fst) h)
  · exact h2 q h
theorem memSkip {α : Type} {q : α} (A B : List α) {C : List α} (h : q ∈ A ++ C) : q ∈ A ++ (B ++ C) := (List.mem_append.mp h).elim (fun x => List.mem_append_left _ x) fun x => List.mem_append_right _ (List.mem_append_right _ x)
theorem memSwap {α : Type} {q : α} (A B C : List α) (h : q ∈ C ++ (A ++ B)) : q ∈ B ++ (A ++ C) := by
  simp only [List.mem_append] at h ⊢
  rcases h with h | h | h
  · exact .inr (.inr h)
  · exact .inr (.inl h)
  · exact .inl h
theorem memMid {α : Type} {q x : α} (A : List α) {C : List α} (h : q ∈ x :: (A ++ C)) : q ∈ A ++ (x :: C) := by
  simp only [List.mem_append, List.mem_cons] at h ⊢
  rcases h with h | h | h
  · exact .inr (.inl h)
  · exact .inl h
  · exact .inr (.inr h)
theorem sepCons {J : Addr} {o : Obj} {B : List Addr} {R : List (Addr × Obj)} (h1 : ∀ a ∈ B, a ≠ J) (h2 : ∀ q ∈ R, ∀ b ∈ B, q.1 ≠ b) : ∀ q ∈ (J, o) :: R, ∀ b ∈ B, q.1 ≠ b := fun q hq b hb => by
  rcases List.mem_cons.mp hq with rfl | hq
  · exact Ne.symm (h1 b hb)
  · exact h2 q hq b hb
theorem memMid2 {α : Type} {q x : α} (A : List α) {C : List α} (h : q ∈ A ++ (x :: C)) : q ∈ x :: (A ++ C) := by
  simp only [List.mem_append, List.mem_cons] at h ⊢
  rcases h with h | h | h
  · exact .inr (.inl h)
  · exact .inl h
  · exact .inr (.inr h)
theorem memEnd {α : Type} {q : α} (A B C D : List α) (h : q ∈ A ++ (B ++ C)) : q ∈ C ++ ((A ++ B) ++ D) := by
  simp only [List.mem_append] at h ⊢
  rcases h with h | h | h
  · exact .inr (.inl (.inl h))
  · exact .inr (.inl (.inr h))
  · exact .inl h
end
section
theorem dgood_run {octs : List Int} : ∀ (ds : List (Int × Int)) {y : Dec} {b : Bin}, DGood octs y b → Decs ds → DGood octs (decRun y b ds).1 (decRun y b ds).2
  | [], _, _, g, _ => g
  | d :: ds, y, b, g, hd => dgood_run ds (g.get (hd d (.head _)).1 (hd d (.head _)).2).1 fun e he => hd e (.tail _ he)
theorem dec0_good {o : List Int} {b : Bin} (ho : Octets o) (hl : o.length < 100000) (hb : BinOk b) : DGood o (dec0 o) b := by
  have h := dec0_at o
  exact ⟨h.2.2.1, by rw [h.2.2.1]; exact ho, by rw [h.2.2.1]; exact hl, h.2.2.2, by rw [h.2.1]; decide, hb⟩
/-- what the decoder of a whole stream answers -/
theorem reads_all {ds : List (Int × Int)} {N : Nat} (g : Good N (encRun (enc0, bin0) ds).1 (encRun (enc0, bin0) ds).2) (hd : Decs ds) (hb : ∀ d ∈ ds, d.2 = 0 ∨ d.2 = 1) :
    Reads2 (dec0 (encRun (enc0, bin0) ds).1.last) bin0 ds ∧ Octets (encRun (enc0, bin0) ds).1.last ∧ (encRun (enc0, bin0) ds).1.last.length ≤ N + 2 := by
  obtain ⟨T, M, h1, h2, h3, h4, h5, h6⟩ := last_stream g.ok g.big
  have h := dec0_at (encRun (enc0, bin0) ds).1.last
  exact ⟨reads_back h4 ds good0 hd hb h.1 h.2.1 h1 h2 h3, h5, by have := g.len; (first | lia | omega)⟩
theorem number_said {y : Dec} {b : Bin} {r k : Int} (r0 : 0 ≤ r) (r1 : r < 32768) (h : Reads2 y b (lawDecs r k)) :
    getSize y b k = some ((decRun y b (sizeDecs r k)).1, (decRun y b (sizeDecs r k)).2, (sizeEnd r k).1, (sizeEnd r k).2) ∧
    getBits 15 (decRun y b (sizeDecs r k)).1 (decRun y b (sizeDecs r k)).2 ((sizeEnd r k).2 + 14) (sizeEnd r k).1 (sizeEnd r k).1 = ((decRun y b (lawDecs r k)).1, (decRun y b (lawDecs r k)).2, r) := by
  rw [lawDecs_eq r0 r1] at h ⊢
  obtain ⟨h1, h2⟩ := reads_append _ _ _ _ h
  refine ⟨size_read r0 r1 h1, ?_⟩
  rw [decRun_append]
  exact number_read r0 r1 h2
theorem numDs_reads {y : Dec} {b : Bin} {r1 a1 r2 a2 r a : Int} {i : Nat} (hi : i < 2) (hD : numDs r1 a1 r2 a2 (i + 1) = numDs r1 a1 r2 a2 i ++ lawDecs r a) (h : Reads2 y b (numDs r1 a1 r2 a2 2)) :
    Reads2 (decRun y b (numDs r1 a1 r2 a2 i)).1 (decRun y b (numDs r1 a1 r2 a2 i)).2 (lawDecs r a) := by
  have h2 : Reads2 y b (numDs r1 a1 r2 a2 (i + 1)) := by
    match i, hi with
    | 0, _ => exact (reads_append _ _ _ _ h).1
    | 1, _ => exact h
  rw [hD] at h2
  exact (reads_append _ _ _ _ h2).2
noncomputable abbrev dbothA (c : DecAt) (d : BinAt) : List Addr := [c.e, c.d, d.e, d.d, d.s, d.t]
theorem dbothJoin {h₀ h h' : Heap} {L : Addr} {c : DecAt} {d : BinAt} {x x' : Dec} {t1 t2 t3 t4 t1' t2' t3' t4' : Tok} {vs ws vs' ws' : List Value} {n1 n2 n1' n2' : Nat} {R : List (Addr × Obj)} (N : News h₀ L h R)
    (N' : News h₀ L h' (dbothL c x' t1' t2' t3' t4' d vs' ws' n1' n2')) (K : Keeps ((dbothL c x t1 t2 t3 t4 d vs ws n1 n2).map (·.1)) h h') (hs : ∀ q ∈ R, ∀ a ∈ dbothA c d, q.1 ≠ a) : News h₀ L h' (dbothL c x' t1' t2' t3' t4' d vs' ws' n1' n2' ++ R) := fun p hp => by
  rcases List.mem_append.mp hp with q | q
  · exact N' p q
  · exact ⟨K _ _ (N p q).1 (fun hm => hs p q p.1 hm rfl), (N p q).2⟩
theorem dbothA_in {c : DecAt} {d : BinAt} (o : dapart c d) : ∀ a ∈ dbothA c d, @LE.le Nat _ c.d a ∧ @LE.le Nat _ a d.t := fun a ha => by
  obtain ⟨o1, o3, o4, o5, o6⟩ := o
  have o1 : @LT.lt Nat _ c.d c.e := o1
  simp only [List.mem_cons, List.not_mem_nil, or_false] at ha
  rcases ha with h | h | h | h | h | h <;> subst h <;> exact ⟨by (first | lia | omega), by (first | lia | omega)⟩
noncomputable def frHeap {h₀ h : Heap} {L : Addr} {l : List (Addr × Obj)} (_N : News h₀ L h l) : Heap := h
end
section
section
variable {α β : Type} {M : Model} {A : Around} {E : Value → Shared → Prop} {s : Shared} {env : Env}
theorem wpC.onRaiseR {m : Sem α} {k : Value → Sem Unit} {Q : α → Shared → Prop} (h : wpC M A m Q (fun e s' => wpAny M A (k e) (fun _ s'' => E e s'') E s') s) : wpC M A (m.onRaise k) Q E s := fun Γ p hΓ hC => by
  rw [Sem.wp_onRaise]
  exact Sem.wp_mono M Γ m (fun _ _ _ h' => h') (fun e p' s' h' => h' Γ p' hΓ) p s (h Γ p hΓ hC)
theorem wpC.noted {m : Sem α} {Q : α → Shared → Prop} (h : wpC M A m Q (notedBy M A env E) s) : wpC M A (m.onRaise fun x => do noteFrame x env; theTreesLotGoes x) Q E s :=
  .onRaiseR (h.mono (fun _ _ q => q) fun _ _ hx => wpAny_bind (wpAny_mono hx (fun _ _ e => wpAny_theTreesLotGoes e) fun _ _ e => e))
theorem wpC.runOwnR {c : Code} {Q : Flow → Shared → Prop} (hf : free c = true)
    (hc : codeC M A c (fun r s' => match r with | .ok f => Q f s' | .error e => cameBackBy M A env E e s') s) : wpC M A (PySem.runOwn c env) Q E s := by
  unfold PySem.runOwn
  exact .onRaiseR (.run hf hc)
theorem wpC.attempt {m : Sem α} {Q : Except Value α → Shared → Prop} (h : wpC M A m (fun a => Q (.ok a)) (fun e => Q (.error e)) s) : wpC M A m.attempt Q E s := fun Γ p hΓ hC => by
  rw [Sem.wp_attempt]
  exact h Γ p hΓ hC
theorem wpC.TryExcept {body : List Stmt} {h₀ : ExceptHandler} {hs : List ExceptHandler} {pos : Pos} {Q : Flow → Shared → Prop}
    (h : wpC M A (execs body env) (fun f s₁ => match f with | .next => wpC M A (execs [] env) Q E s₁ | f => Q f s₁)
      (fun e s₁ => wpAny M A (noteFrame e env) (fun _ s₂ => wpAny M A (setFlight e none) (fun _ s₃ => wpAny M A (handleBy e env (h₀ :: hs)) Q E s₃) E s₂) E s₁) s) :
    wpC M A (exec (.Try body (h₀ :: hs) [] [] pos) env) Q E s := by
  rw [arm_exec_Try]
  refine .standAt ?_
  unfold tryStmt
  simp only [List.isEmpty_nil, if_true, List.isEmpty_cons, Bool.false_and, Bool.false_eq_true, if_false]
  refine .bind (.attempt (h.mono (fun f s₁ h₁ => ?_) fun e s₁ h₁ => ?_))
  · cases f <;> first | exact h₁ | exact .pure h₁
  · exact .of (wpAny_bind (wpAny_mono h₁ (fun _ _ h₂ => wpAny_bind h₂) fun _ _ x => x))
end
section
variable {prog : Program} {w : World} {A A₀ : Around} {E : Value → Shared → Prop} {R : Result → Shared → Prop} {s : Shared} {env : Env}
theorem codeC.funcR {body : List Stmt} (h : wpC (model prog w) (A.deeper env) (execs body env) (fun f s' => R (.ok (.ret (match f with | .ret v => v | _ => .none))) s')
      (fun e s' => wpAny (model prog w) (A.deeper env) (leaving env e) (fun _ s'' => R (.error e) s'') (fun e' s'' => R (.error e') s'') s') s) :
    codeC (model prog w) A (.func body env) R s := by
  refine .tree ?_
  show wpC _ (A.deeper env) (do point; match ← (execs body env).onRaise (leaving env) with | .ret v => ret v | _ => ret .none) _ _ s
  refine .bindL (wpAny_point (.bind (.onRaiseR (h.mono (fun f s' h' => ?_) fun _ _ x => x))))
  cases f <;> exact .pure h'
theorem codeC.call_defR {a : Addr} {o : Obj} {fd : FuncData} {body : List Stmt} {args : Args} {binds : List (Str × Value)}
    (hroom : A.depth < recursionLimit) (ho : s.heap.get? a = some o) (hdata : o.data = .func fd) (hlim : s.heap.NoLimit) (hcd : s.heap.CodeRec fd.code fd.qualname)
    (hbody : fd.body = .stmts body) (hbind : BindsTo s fd args binds)
    (hcell : ∀ x ∈ fd.scope.names, x.2 ≠ .cell) (hloc : ∀ x ∈ binds, fd.scope.names.lookup x.1 = some .local)
    (h : ∀ h₀, h₀.Ns s.heap.objs.size (fun x => binds.reverse.lookup x) → (∀ b o, s.heap.get? b = some o → h₀.get? b = some o) →
      wpC (model prog w) (A.deeper (callEnv fd s.heap.objs.size a)) (execs body (callEnv fd s.heap.objs.size a)) (fun f s' => R (.ok (.ret (match f with | .ret v => v | _ => .none))) s')
        (fun e s' => wpAny (model prog w) (A.deeper (callEnv fd s.heap.objs.size a)) (leaving (callEnv fd s.heap.objs.size a) e) (fun _ s'' => R (.error e) s'') (fun e' s'' => R (.error e') s'') s') { s with heap := h₀, toks := s.toks + binds.length })
    (hco : fd.scope.isCoroutine = false := by rfl) (hgen : fd.scope.isGenerator = false := by rfl) (hk : fd.scope.kind = .function := by rfl) :
    codeC (model prog w) A (.call (.ref a) args) R s := by
  refine .tree ?_
  show wpC _ A.in1 (callAny (.ref a) args) _ _ s
  simp only [callAny]
  refine .bindL (wpAny_load ho ?_)
  obtain ⟨c, oc, vs, tq, hc, hoc, hdc, hq⟩ := hcd
  simp only [hdata, callFunction, hco, hgen, hbody, hc]
  refine .bindL (m := field (.ref c) 1) (wpAny_field hoc hdc hq ?_)
  refine .bindL (wpAny_pure ?_)
  refine .bindL (hbind _ _ _ _ ?_)
  rw [← hc]
  refine .bindL (wpAny_newFunctionEnv hcell hloc (fun h₀ hns₀ hsb₀ => ?_) hk)
  refine .bindL (wpAny_enterFrame (hlim.fresh _ hsb₀) hroom ?_)
  refine .pure ⟨rfl, rfl, codeC.funcR (h h₀ hns₀ fun b o e => ?_)⟩
  exact hsb₀.extBut b o (Nat.ne_of_lt (Heap.lt_size e)) (Heap.get?_push_of_some _ e)
/-- a while whose test or body may raise -/
theorem wpC.WhileR {test : PySem.Expr} {body : List Stmt} {pos : Pos} {Q : Flow → Shared → Prop} (hE : PassesOwn (model prog w) A env E) (I : Nat → Shared → Prop) {n₀ : Nat} (h0 : I n₀ s)
    (turn : ∀ n s₁, I n s₁ → let P9 : Flow → Shared → Prop := fun f s₃ => match f with | .next | .cont => ∃ k, k < n ∧ I k s₃ | .brk => Q .next s₃ | .ret v => Q (.ret v) s₃; wpC (model prog w) A (isTrue test env (eval test env)) (fun b s₂ =>
        if b = true then wpC (model prog w) A (execs body env) P9 E s₂
        else Q .next s₂) E s₁) :
    wpC (model prog w) A (exec (.While test body [] pos) env) Q E s := by
  rw [exec_While]
  refine .standAt (.runOwnR rfl ?_)
  induction n₀ using Nat.strongRecOn generalizing s with
  | ind n ih =>
    refine .tree ?_
    show wpC _ A ((whileTurn test body [] env).onRaise (fun x => do noteFrame x env; theTreesLotGoes x)) _ _ s
    refine .noted ?_
    simp only [whileTurn]
    refine .bind ((turn n s h0).mono (fun b s₂ h₂ => ?_) hE)
    cases b with
    | false =>
      simp only [Bool.false_eq_true, if_false] at h₂ ⊢
      exact .bind (.execs_nil (.pure h₂))
    | true =>
      simp only [if_true] at h₂ ⊢
      refine .bind (h₂.mono (fun f s₃ h₃ => ?_) hE)
      cases f with
      | next => obtain ⟨k, hk, hI⟩ := h₃; exact .pure ⟨rfl, rfl, ih k hk hI⟩
      | cont => obtain ⟨k, hk, hI⟩ := h₃; exact .pure ⟨rfl, rfl, ih k hk hI⟩
      | brk => exact .pure h₃
      | ret v => exact .pure h₃
end
section
variable {prog : Program} {w : World} {A A₀ : Around} {E : Value → Shared → Prop} {s : Shared} {K : Frag} {L : Addr} {h₀ base : Heap} {m mg mb : Str → Option Value} {news : List (Addr × Obj)} {p : Program} {loose : List Str} {mean : ExcName → Option Value}
theorem codeC.code_defE {env : Env} {outer : List Env} {R : Result → Shared → Prop} {name qual : Str} {params : Arguments} {body : List Stmt} {scope : Scope} {dV kV doc pm cdv ct oc : Value} {an od : Option Addr} {osl : Array (Option Value)} {f : Addr} {args : Args} {binds : List (Str × Value)}
    (B : Below A₀ base outer h₀) (F : Fr h₀ L s.heap m) (X₀ : K.In h₀) (N : News h₀ L s.heap news) (T : Top p loose mean mg mb h₀) (hA : A.frames = some (env :: outer)) (hf : env.frame = some L) (hke : env.scope.kind = .function)
    (ho : K.lookup f = some ⟨oc, od, .func (fnOf name qual params body scope dV kV doc pm an cdv ct), osl⟩) (hcd : codeIn K cdv qual = true) (hroom : A.depth < recursionLimit)
    (hbind : BindsTo s (fnOf name qual params body scope dV kV doc pm an cdv ct) args binds) (hloc : ∀ y ∈ binds, scope.names.lookup y.1 = some .local)
    (h : ∀ g L' h₁, Keeps (news.map (·.1)) s.heap g → Fr h₀ L g m → Fr g L' h₁ (fun y => binds.reverse.lookup y) → News g L' h₁ news → Below A base (env :: outer) g → K.In g → Top p loose mean mg mb g → (∀ p ∈ news, p.1 < L') →
      wpC (model prog w) (A.deeper (envOf qual scope L' f cdv)) (execs body (envOf qual scope L' f cdv))
        (fun fl s' => LeaveK h₀ L m g R (match fl with | .ret v => v | _ => .none) s')
        (fun e s' => wpAny (model prog w) (A.deeper (envOf qual scope L' f cdv)) (leaving (envOf qual scope L' f cdv) e) (fun _ s'' => R (.error e) s'') (fun e' s'' => R (.error e') s'') s') { s with heap := h₁, toks := s.toks + binds.length })
    (hco : scope.isCoroutine = false) (hgen : scope.isGenerator = false) (hk : scope.kind = .function)
    (hcell : ∀ x ∈ scope.names, x.2 ≠ .cell) : codeC (model prog w) A (.call (.ref f) args) R s := by
  obtain ⟨FG, BG, st, lv⟩ := groundX (R := R) B F N hA hf hke
  have X := X₀.keeps F.keep
  refine codeC.call_defR (fd := fnX name qual params body scope [] dV kV doc pm an cdv ct) (body := body) (binds := binds) hroom (X _ _ ho) rfl (T.nolimit.keeps F.keep) (codeRec_of X hcd) rfl hbind hcell hloc (fun h₁ hns hk₁ => ?_) hco hgen hk
  exact (h _ s.heap.objs.size h₁ (fun b o e hb => hideAll_get _ e hb) FG ⟨hns, fun b o e => hk₁ b o (of_hideAll _ e), Nat.le_of_eq (hideAll_size _ _)⟩
    (fun p hp => ⟨hk₁ _ _ (N p hp).1, Nat.ne_of_lt (Heap.lt_size (N p hp).1), hideAll_none _ (List.mem_map_of_mem hp)⟩) BG (X₀.keeps st) (T.keeps st) (fun p hp => Heap.lt_size (N p hp).1)).mono (fun fl s' hl => lv _ _ hl) fun _ _ y => y
/-- a def called by the law itself, within which something is caught -/
theorem codeC.code_defS0 {R : Result → Shared → Prop} {a : Addr} {cn : Str} {cs : Scope} {ccd : Value} {name qual : Str} {params : Arguments} {body : List Stmt} {scope : Scope} {dV kV doc pm cdv ct oc : Value} {an od : Option Addr} {osl : Array (Option Value)} {f : Addr} {args : Args} {binds : List (Str × Value)}
    (B : Below A₀ base [] h₀) (F : Fr h₀ L s.heap m) (X₀ : K.In h₀) (N : News h₀ L s.heap news) (T : Top p loose mean mg mb h₀) (hA : A.frames = some [envOf cn cs L a ccd])
    (ho : K.lookup f = some ⟨oc, od, .func (fnOf name qual params body scope dV kV doc pm an cdv ct), osl⟩) (hcd : codeIn K cdv qual = true) (hroom : A.depth < recursionLimit)
    (hbind : BindsTo s (fnOf name qual params body scope dV kV doc pm an cdv ct) args binds) (hloc : ∀ y ∈ binds, scope.names.lookup y.1 = some .local)
    (h : ∀ g L' h₁, Fr h₀ L g m → Fr g L' h₁ (fun y => binds.reverse.lookup y) → News g L' h₁ news → Below A base [envOf cn cs L a ccd] g → K.In g → Top p loose mean mg mb g → KtsDicts ([envOf cn cs L a ccd].filterMap (·.frame)) g →
      wpC (model prog w) (A.deeper (envOf qual scope L' f cdv)) (execs body (envOf qual scope L' f cdv))
        (fun fl s' => LeaveS0 ([envOf cn cs L a ccd].filterMap (·.frame)) h₀ L m g R (match fl with | .ret v => v | _ => .none) s')
        (fun _ _ => False) { s with heap := h₁, toks := s.toks + binds.length })
    (hck : cs.kind = .function) (hco : scope.isCoroutine = false) (hgen : scope.isGenerator = false) (hk : scope.kind = .function)
    (hcell : ∀ x ∈ scope.names, x.2 ≠ .cell) : codeC (model prog w) A (.call (.ref f) args) R s := by
  have X := X₀.keeps F.keep
  refine codeC.call_def (fd := fnOf name qual params body scope dV kV doc pm an cdv ct) (body := body) (binds := binds) hroom (X _ _ ho) rfl (T.nolimit.keeps F.keep) (codeRec_of X hcd) rfl hbind hcell hloc (fun h₁ hns hk₁ => ?_) hco hgen hk
  obtain ⟨oL, es, ep, hLg, hLd, hN, hNs, st, B₂⟩ := kts_enter B F N hA hck
  refine (h _ s.heap.objs.size h₁ ⟨hN _ hLg, st, F.above⟩ ⟨hns, fun b o e => hk₁ b o (of_hideAll _ e), Nat.le_of_eq (hideAll_size _ _)⟩
    (fun p hp => ⟨hk₁ _ _ (N p hp).1, Nat.ne_of_lt (Heap.lt_size (N p hp).1), hideAll_none _ (List.mem_map_of_mem hp)⟩) B₂ (X₀.keeps st) (T.keeps st) (fun b hb => by
      rcases kts_mem hb with rfl | z
      · exact ⟨oL, es, ep, hLg, hLd⟩
      · simp at z)).mono (fun fl s' hl => ?_) fun _ _ y => y
  obtain ⟨g', L', m', news', T', F', N', k⟩ := hl
  have nL₀ : h₀.get? L = none := kts_self F
  obtain ⟨sl, hs⟩ := T'.up hLg
  refine k ⟨hNs sl _ (F'.keep _ _ hs), fun b o e => F'.keep b o (T'.other b o (st b o e) (fun q => by
    rcases kts_mem q with z | z
    · rw [z, nL₀] at e
      cases e
    · simp at z)), F.above⟩ fun p hp => ⟨(N' p hp).1, fun q => ?_, ?_⟩
  · have := (N' p hp).2.2; rw [q, hs] at this; cases this
  · cases q : h₀.get? p.1 with
    | none => rfl
    | some o =>
      obtain ⟨sl', hs'⟩ := T'.up (st _ _ q)
      have := (N' p hp).2.2
      rw [hs'] at this
      cases this
end
/-- what a call that raises the class C does -/
noncomputable def RaiseC (prog : Program) (w : World) (mean : ExcName → Option Value) (mg mb : Str → Option Value) (f : Addr) (d u : Nat) (vs : List Value) (A : List (Addr × Obj)) (C : Addr) : Prop :=
  ∀ (dp un : Nat) (gd : Option (List Code)) (cn : Str) (cs : Scope) (a : Addr) (ccd : Value) (cl : List (Str × Addr)) (outer : List Env) (A₀ : Around) (base h₀ : Heap) (L : Addr) (m : Str → Option Value) (s : Shared) (Q E : Value → Shared → Prop),
    Below A₀ base outer h₀ → Fr h₀ L s.heap m → (Mine.hd.heap_39 w.params).In h₀ → News h₀ L s.heap A → Top VW LO mean mg mb h₀ → cs.kind = .function → dp + d < recursionLimit → un + u < cLine →
    (∀ G e h' tk', Fr h₀ L G m → RaisedSN base G (envX cn cs L a ccd cl :: outer) e (.ref C) [] h' → G.UpToSlots h' → E (.ref e) { s with heap := h', toks := tk' }) →
    wpC (model prog w) (ktrTop dp un gd cn cs L a ccd cl outer) (call (.ref f) vs) Q E s
theorem RaiseC.use {prog : Program} {w : World} {mean : ExcName → Option Value} {mg mb : Str → Option Value} {f : Addr} {d u : Nat} {vs : List Value} {A : List (Addr × Obj)} {C : Addr} (R : RaiseC prog w mean mg mb f d u vs A C)
    {dp un : Nat} {gd : Option (List Code)} {cn : Str} {cs : Scope} {a : Addr} {ccd : Value} {cl : List (Str × Addr)} {outer : List Env} {A₀ : Around} {base h₀ : Heap} {L : Addr} {m : Str → Option Value} {s : Shared} {Q E : Value → Shared → Prop}
    (k1 : Below A₀ base outer h₀) (k2 : Fr h₀ L s.heap m) (k3 : (Mine.hd.heap_39 w.params).In h₀) (k4 : News h₀ L s.heap A) (k5 : Top VW LO mean mg mb h₀) (k6 : cs.kind = .function) (k7 : dp + d < recursionLimit) (k8 : un + u < cLine)
    (hret : ∀ G e h' tk', Fr h₀ L G m → RaisedSN base G (envX cn cs L a ccd cl :: outer) e (.ref C) [] h' → G.UpToSlots h' → E (.ref e) { s with heap := h', toks := tk' }) :
    wpC (model prog w) (ktrTop dp un gd cn cs L a ccd cl outer) (call (.ref f) vs) Q E s := R _ _ _ _ _ _ _ _ _ _ _ _ _ _ _ _ _ k1 k2 k3 k4 k5 k6 k7 k8 hret
end
section
section
open Builtin Builtin.ObjectAttr
/-- the tail of the order of an own class below Exception -/
noncomputable def excTail : List Value → Bool
  | [.type a, .type b, .type c] => a == "Exception" && b == "BaseException" && c == "object"
  | .ref _ :: r => excTail r
  | _ => false
theorem excTail_has {X : String} : ∀ {l : List Value}, excTail l = true → l.contains (.type X) = [Value.type "Exception", .type "BaseException", .type "object"].contains (.type X)
  | [.type a, .type b, .type c], e => by
    simp only [excTail, Bool.and_eq_true, beq_iff_eq] at e
    rw [e.1.1, e.1.2, e.2]
  | .ref c :: r, e => by
    have e' : excTail r = true := by
      cases r with
      | nil => cases e
      | cons x r => exact e
    rw [List.contains_cons, excTail_has e']
    rfl
theorem excTail_refuse (self : Value) : ∀ {l : List Value}, excTail l = true → refuseLoop self "__setattr__" l = pure ()
  | [.type a, .type b, .type c], e => by
    simp only [excTail, Bool.and_eq_true, beq_iff_eq] at e
    rw [e.1.1, e.1.2, e.2]
    exact PySem.F.store_Exception.passes self
  | .ref c :: r, e => by
    have e' : excTail r = true := by
      cases r with
      | nil => cases e
      | cons x r => exact e
    rw [refuseLoop_ref, excTail_refuse self e']
variable {prog : Program} {w : World} {A : Around} {E : Value → Shared → Prop} {h : Heap} {g : Array GenState} {d : Drawn} {t : Nat} {os : OsState}
variable {nm q : Str} {C N : Addr} {bs bm : List Value} {sn : List Str} {sub : List Value} {ab : Bool} {col : Option Bool} {dd : Option Addr} {k0 k1 k2 k3 k5 : Option Value} {rest : List Value}
theorem exc_has (hb : excTail bm = true) (X : String) : (Value.ref C :: bm).contains (.type X) = [Value.type "Exception", .type "BaseException", .type "object"].contains (.type X) := by
  rw [List.contains_cons, excTail_has hb]
  rfl
theorem exc_check {M : Model} {Q : Unit → Shared → Prop} (hb : excTail bm = true) (hC : h.get? C = some (excClassObj nm q C N bs bm true sn sub ab col dd k0 k1 k2 k3 k5 "Exception.__new__"))
    (hq : Q () ⟨h, g, d, t, os⟩) : wpAny M A (checkBuiltinCall "Exception.__new__" ⟨.ref C :: rest, []⟩) Q E ⟨h, g, d, t, os⟩ := by
  have Fn := PySem.F.excBase_Exception
  have hcont : (Value.ref C :: bm).contains (.type "Exception") = true := by rw [exc_has hb]; decide
  have hstar := Fn.noStar
  simp only [checkBuiltinCall, Fn.newKind, Fn.newSplit, Fn.newRow]
  repeat (first | refine wpAny_loadPart_at hC ?_ | (refine wpAny_isSubtype_exc hC ?_; rw [hcont]) | refine wpAny_staticBase_exc hC ?_ | refine wpAny_madeBy_exc hC ?_ | simp only [bne_self_eq_false, Bool.false_eq_true, if_false] | wp_step)
  exact hq
theorem exc_new {R : Result → Shared → Prop} (hb : excTail bm = true) (hC : h.get? C = some (excClassObj nm q C N bs bm true sn sub ab col dd k0 k1 k2 k3 k5 "Exception.__new__"))
    (hq : R (.ok (.ret (.ref (h.objs.size + 1)))) ⟨(h.push { cls := .type "tuple", data := .seq rest.toArray }).push
      { cls := .ref C, data := .fields #[.ref h.objs.size, .none, .none, .none, .bool false, .none] }, g, d, t, os⟩) (hrest : rest.length ≤ sizeLine) :
    codeAny (model prog w) A (.builtin "Exception.__new__" ⟨.ref C :: rest, []⟩) R ⟨h, g, d, t, os⟩ := by
  have Fn := PySem.F.excBase_Exception
  have hends := Fn.ends
  have hcB : (Value.ref C :: bm).contains (.type "Exception") = true := by rw [exc_has hb]; decide
  have hcA : (Value.ref C :: bm).contains (.type "AttributeError") = false := by rw [exc_has hb]; decide
  have hcN : (Value.ref C :: bm).contains (.type "NameError") = false := by rw [exc_has hb]; decide
  refine codeAny_builtinAt Fn.entry ?_
  unfold Builtin.«BaseException.__new__»
  refine PySem.wpAt_bind ?_
  show PySem.wpAt _ _ _ (stack >>= _) _ _ _
  refine PySem.wpAt_bind (PySem.wpAt_stack fun p below => PySem.wpAt_of_wpAny ?_)
  wp_walk
  refine PySem.wpAt_of_wpAny ?_
  rw [Fn.owner]
  repeat (first | with_reducible refine wpAny_madeHere_exc Fn.canon hC ?_ | with_reducible refine wpAny_loadPart_at hC ?_ | (with_reducible refine wpAny_isSubtype_exc hC ?_; first | rw [hcB] | rw [hcA] | rw [hcN]) | wp_step)
  show R _ _
  rw [Heap.size_push]
  exact hq
theorem exc_type_call {K : Frag} {fI : Addr} {Q : Fin → Shared → Prop} (X : K.In h) (hb : excTail bm = true) (hC : h.get? C = some (excClassObj nm q C N bs bm true sn sub ab col dd k0 k1 k2 k3 k5 "Exception.__new__"))
    (hi : findIn K (.ref C) "__init__" = some (some (.ref fI))) (hf : typeIn K (.ref fI) = some (.type "function"))
    (hq : ∀ h' e, Heap.MadeExcOf h h' e (.ref C) rest →
      wpAny (model prog w) A (call (.ref fI) (.ref e :: rest)) (fun r s' => r = .none ∧ Q (.done (.ret (.ref e))) s') E ⟨h', g, d, t, os⟩) (hrest : rest.length ≤ sizeLine) :
    wpAny (model prog w) A (Builtin.«type.__call__» ⟨.ref C :: rest, []⟩) Q E ⟨h, g, d, t, os⟩ := by
  have F := PySem.F.excBase_Exception
  repeat (first | with_reducible refine wpAny_loadPart_at hC ?_ | with_reducible refine wpAny_madeBy_exc hC ?_ | wp_step)
  refine codeAny_call_builtin_code (Code.quiet_builtin _ F.quiet) (exc_check hb hC ?_)
  refine exc_new hb hC ?_ hrest
  show wpAny _ _ _ _ _ _
  have k : ∀ b o, h.get? b = some o → ((h.push { cls := .type "tuple", data := .seq rest.toArray }).push { cls := .ref C, data := .fields #[.ref h.objs.size, .none, .none, .none, .bool false, .none] }).get? b = some o :=
    fun b o e => Heap.get?_push_of_some _ (Heap.get?_push_of_some _ e)
  have hC₁ := k _ _ hC
  have hget : ((h.push { cls := .type "tuple", data := .seq rest.toArray }).push
      { cls := .ref C, data := .fields #[.ref h.objs.size, .none, .none, .none, .bool false, .none] }).get? (h.objs.size + 1) = some
      { cls := .ref C, data := .fields #[.ref h.objs.size, .none, .none, .none, .bool false, .none] } := by heap_get
  have hcC : (Value.ref C :: bm).contains (.ref C) = true := by simp
  unfold isInstance
  repeat (first | with_reducible refine wpAny_loadPart_at hget ?_ | (with_reducible refine wpAny_isSubtype_exc hC₁ ?_; rw [hcC]) | wp_step)
  show wpAny _ _ (typeLookup (.ref C) _) _ _ _
  refine (looks_findIn (M := model prog w) (X.keeps k) hi).here ?_
  refine wpAny_holding (wpAny_bind ((bind_fn (M := model prog w) (X.keeps k) _ hf).here ?_))
  refine wpAny_bind (wpAny_mono (hq _ (h.objs.size + 1) ⟨k, Heap.get?_none_of_le (Nat.le_succ _), h.objs.size, hget, Heap.get?_none_of_le (Nat.le_refl _), Heap.get?_push_of_some _ (Heap.get?_push_at rfl rfl)⟩) (fun r s' hr => ?_) fun _ _ x => x)
  obtain ⟨rfl, hQ⟩ := hr
  wp_walk
  exact hQ
/-- an own exception class with an __init__ of its own is called -/
theorem exc_make {K : Frag} {s : Shared} {fI : Addr} {Q : Value → Shared → Prop} (X : K.In s.heap) (ho : K.lookup C = some (excClassObj nm q C N bs bm true sn sub ab col dd k0 k1 k2 k3 k5 "Exception.__new__")) (hb : excTail bm = true)
    (hi : findIn K (.ref C) "__init__" = some (some (.ref fI))) (hf : typeIn K (.ref fI) = some (.type "function")) (hrest : rest.length ≤ sizeLine)
    (hq : ∀ h' e, Heap.MadeExcOf s.heap h' e (.ref C) rest →
      wpAny (model prog w) (A.under (.builtin "type.__call__" ⟨.ref C :: rest, []⟩)) (call (.ref fI) (.ref e :: rest)) (fun r s' => r = .none ∧ Q (.ref e) s') E { s with heap := h' }) :
    wpAny (model prog w) A (call (.ref C) rest) Q E s := by
  obtain ⟨h, g, d, t, os⟩ := s
  have hC := X _ _ ho
  have f1 := tc_lookup
  have f2 := tc_bind (.ref C)
  have hT : (⟨h, g, d, t, os⟩ : Shared).TypeIs (.ref C) "type" := ⟨_, hC, rfl⟩
  refine wpAny_call (codeAny_of_tree ?_)
  show wpAny _ _ (callAny (.ref C) _) _ _ _
  repeat (any_goals (first | assumption | with_reducible refine wpAny_loadPart_at hC ?_ | wp_step))
  refine ⟨rfl, ?_⟩
  refine codeAny_call_builtin_at (Code.quiet_builtin _ (by decide +kernel)) entry_typeCall (wpAny_check_type_call_sub hC (exc_type_call X hb hC hi hf (fun h' e hm => ?_) hrest))
  exact hq h' e hm
end
end
section
noncomputable abbrev excO (C : Addr) (dct : Option Addr) (tp : Addr) : Obj := { cls := .ref C, dict := dct, data := .fields #[.ref tp, .none, .none, .none, .bool false, .none] }
section
open Builtin Builtin.ObjectAttr
variable {prog : Program} {w : World} {A : Around} {E : Value → Shared → Prop} {s : Shared} {K : Frag} {C e L tp : Addr} {h₀ : Heap} {m : Str → Option Value} {v : Value} {r : List (Addr × Obj)}
variable {h : Heap} {g : Array GenState} {d : Drawn} {t : Nat} {os : OsState}
variable {nm q : Str} {N0 : Addr} {bs bm : List Value} {sn : List Str} {sub : List Value} {ab : Bool} {col : Option Bool} {dd : Option Addr} {k0 k1 k2 k3 k5 : Option Value} {rest : List Value}
theorem exc_check_init {M : Model} {oe : Obj} {Q : Unit → Shared → Prop} (hb : excTail bm = true) (hC : h.get? C = some (excClassObj nm q C N0 bs bm true sn sub ab col dd k0 k1 k2 k3 k5 "Exception.__new__")) (he : h.get? e = some oe) (hcls : oe.cls = .ref C)
    (hq : Q () ⟨h, g, d, t, os⟩) : wpAny M A (checkBuiltinCall "Exception.__init__" ⟨.ref e :: rest, []⟩) Q E ⟨h, g, d, t, os⟩ := by
  have F := PySem.F.excBase_Exception
  have hcB : (Value.ref C :: bm).contains (.type "Exception") = true := by rw [exc_has hb]; decide
  have hshort := F.noStar
  simp only [checkBuiltinCall, F.initKind, F.initSplit, F.initRow]
  repeat (first | (with_reducible refine wpAny_loadPart_at he ?_; rw [hcls]) | with_reducible refine wpAny_loadPart_at hC ?_ | (with_reducible refine wpAny_isSubtype_exc hC ?_; rw [hcB]) | wp_step)
  refine wpAny_onRaise ?_
  rw [show ∀ (a b : String) (n : Nat), Bind.check ⟨.positional, "*", "Exception", .self, [⟨"args", .varPos, false⟩]⟩ a b n (List.map (fun x => x.fst) ({ pos := Value.ref e :: rest } : Args).kw) = pure () from
    fun a b n => check_star_args _ _ _ _ _ _]
  exact wpAny_pure hq
theorem exc_init {Q : Value → Shared → Prop} (F : Fr h₀ L s.heap m) (N : News h₀ L s.heap ((e, excO C none tp) :: r)) (hr : ∀ p ∈ r, p.1 ≠ e) (X₀ : K.In h₀)
    (ho : K.lookup C = some (excClassObj nm q C N0 bs bm true sn sub ab col dd k0 k1 k2 k3 k5 "Exception.__new__")) (hb : excTail bm = true)
    (hq : ∀ h' tp', Fr h₀ L h' m → News h₀ L h' ((e, excO C none tp') :: r) → Q .none { s with heap := h' }) :
    wpAny (model prog w) A (call (.builtin "Exception.__init__") [.ref e, v]) Q E s := by
  have F0 := PySem.F.excBase_Exception
  have hF := F.push { cls := .type "tuple", data := .seq [v].toArray }
  have hN := (N.push F { cls := .type "tuple", data := .seq [v].toArray })
  have he : s.heap.get? e = some (excO C none tp) := (N (e, _) (.head _)).1
  have hne : e ≠ s.heap.objs.size := Nat.ne_of_lt (Heap.lt_size he)
  have hC := (X₀.keeps F.keep) _ _ ho
  have U := news_upd (f := Obj.mapFields (·.setIfInBounds 0 (.ref s.heap.objs.size))) (o' := excO C none s.heap.objs.size) (pre := [(s.heap.objs.size, _)]) hF hN (fun p hp => by rw [List.mem_singleton.mp hp]; exact Ne.symm hne) hr rfl rfl
  obtain ⟨hp, g, d, t, os⟩ := s
  refine wpAny_call (codeAny_call_builtin F0.init.plain F0.initEntry (exc_check_init hb hC he rfl ?_))
  unfold Builtin.«BaseException.__init__»
  have he' := Heap.get?_push_of_some { cls := .type "tuple", data := .seq [v].toArray } he
  have hget : ((hp.push { cls := .type "tuple", data := .seq [v].toArray }).update e (Obj.mapFields (·.setIfInBounds 0 (.ref hp.objs.size)))).get? e = some (excO C none hp.objs.size) := (U.2 _ (.tail _ (.head _))).1
  wp_walk
  exact hq _ _ U.1 (News.perm U.2 fun p hp => .tail _ hp)
end
end
section
section
open Builtin Builtin.ObjectAttr
variable {prog : Program} {w : World} {A : Around} {E : Value → Shared → Prop} {s : Shared} {K : Frag} {C e L tp : Addr} {h₀ : Heap} {m : Str → Option Value} {v : Value} {r : List (Addr × Obj)}
variable {nm q : Str} {N0 : Addr} {bs bm : List Value} {sn : List Str} {sub : List Value} {ab : Bool} {col : Option Bool} {dd : Option Addr} {k0 k1 k2 k3 k5 : Option Value} {rest : List Value}
theorem exc_osa {name : Str} {tk : Tok} {R : Result → Shared → Prop} (F : Fr h₀ L s.heap m) (N : News h₀ L s.heap ((e, excO C none tp) :: r)) (hr : ∀ p ∈ r, p.1 ≠ e) (X₀ : K.In h₀)
    (ho : K.lookup C = some (excClassObj nm q C N0 bs bm true sn sub ab col dd k0 k1 k2 k3 k5 "Exception.__new__")) (hb : excTail bm = true) (ht : takerIn K C name = some none)
    (hq : ∀ h' dx tk, Fr h₀ L h' m → News h₀ L h' ((e, excO C (some dx) tp) :: r) → R (.ok (.ret .none)) { s with heap := h', toks := tk }) :
    codeAny (model prog w) A (.call (.builtin "object.__setattr__") ⟨[.ref e, .str name tk, v], []⟩) R s := by
  have X := X₀.keeps F.keep
  have he : s.heap.get? e = some (excO C none tp) := (N (e, _) (.head _)).1
  have I : InstAt s.heap e (excO C none tp) C none := ⟨he, rfl, rfl, trivial⟩
  have SF := PySem.F.store_object
  have hc : clsIn K C = some ⟨nm, bs, .ref C :: bm, N0, q, true, sn, sub, ab, col, false⟩ := by unfold clsIn; rw [ho]
  have hO : (Value.ref C :: bm).contains (.type "object") = true := by rw [exc_has hb]; decide
  have subO : Looks (model prog w) s.heap (isInstance (.ref e) (.type "object")) true := I.type.andThen (looks_mroIn X (by unfold mroIn; rw [hc, Option.bind_some, if_neg (by simp)]; exact congrArg some hO))
  refine codeAny_call_builtin SF.slot.plain SF.entry (@check_slot (model prog w) _ _ s "object.__setattr__" "object" "__setattr__" (.ref e) [.str name tk, v] [] _ SF.kind SF.split subO (SF.args (.ref e) (.str name tk) v) ?_)
  obtain ⟨attr, ha, hr'⟩ := Option.bind_eq_some_iff.mp ht
  have hm : Looks (model prog w) s.heap (mroOf (.ref C)) (.ref C :: bm) := (looks_clsIn X hc).andThen .now
  have L3 : Looks (model prog w) s.heap (storeTaker? attr) none := by
    cases attr with
    | none => cases hr'; exact .now
    | some a =>
      obtain ⟨b, hb', hq'⟩ := Option.map_eq_some_iff.mp hr'
      refine (looks_takesIn X hb').andThen ?_
      cases b
      · exact .now
      · cases hq'
  rw [osa_eq, refuse_eq]
  refine wpAny_bind (wpAny_bind (I.type.here (wpAny_bind (hm.here ?_))))
  rw [refuseLoop_ref, excTail_refuse _ hb]
  refine wpAny_pure (wpAny_bind (I.type.here (wpAny_bind ((looks_findIn X ha).here (wpAny_bind (L3.here ?_))))))
  refine wpAny_bind (wpAny_pure (wpAny_bind (wpAny_bind (wpAny_loadPart he (wpAny_bind ((looks_clsIn X hc).here ?_))))))
  have hF := F.push { cls := .type "dict", data := .dict #[] }
  have hN := N.push F { cls := .type "dict", data := .dict #[] }
  have hne : e ≠ s.heap.objs.size := Nat.ne_of_lt (Heap.lt_size he)
  have U := news_upd (f := fun o => { cls := o.cls, dict := some s.heap.objs.size, data := o.data, slots := o.slots }) (o' := excO C (some s.heap.objs.size) tp) (pre := [(s.heap.objs.size, _)]) hF hN (fun p hp => by rw [List.mem_singleton.mp hp]; exact Ne.symm hne) hr rfl rfl
  have hD := (U.2 _ (.head _))
  show wpAny (model prog w) A.in1 (alloc { cls := .type "dict", data := .dict #[] } >>= fun d => update e (fun o => { cls := o.cls, dict := some d, data := o.data, slots := o.slots }) >>= fun _ => pure (some d)) _ _ s
  refine wpAny_bind (wpAny_alloc' ?_)
  refine wpAny_bind (wpAny_update' (Heap.get?_push_of_some _ he) ?_)
  refine wpAny_pure ?_
  show wpAny _ _ (storeInDict s.heap.objs.size (.str name tk) name v) _ _ _
  unfold storeInDict newKeyGuard
  have hnd : Heap.Ns ((s.heap.push { cls := .type "dict", data := .dict #[] }).update e fun o => { cls := o.cls, dict := some s.heap.objs.size, data := o.data, slots := o.slots }) s.heap.objs.size (fun _ => none) :=
    ⟨_, #[], _, hD.1, rfl, (fun e he => absurd he (by simp)), fun _ => rfl⟩
  refine wpAny_bind (wpAny_pure (wpAny_bind (wpAny_nsSet1 (Heap.Ns1.of_empty hnd) fun h' hn' hs' => ?_)))
  obtain ⟨oD, esD, epD, hoD, hdD, hcD⟩ := hn'.count (Within.cons name v Within.nil)
  refine wpAny_bind (wpAny_lookBehind hoD (by rw [hdD]; exact pastItsLine_dict (Nat.le_trans hcD (by rw [List.length_cons, List.length_nil, sizeLine_eq]; omega))) ?_)
  refine wpAny_pure (hq _ s.heap.objs.size _ (U.1.change hs' hD.2.1 hD.2.2) fun p hp => ?_)
  refine ⟨hs'.extBut _ _ ?_ (U.2 p (.tail _ hp)).1, (U.2 p (.tail _ hp)).2⟩
  rcases List.mem_cons.mp hp with rfl | hp
  · exact hne
  · exact Nat.ne_of_lt (Heap.lt_size (N p (.tail _ hp)).1)
theorem exc_set {name : Str} {Q : Unit → Shared → Prop} (F : Fr h₀ L s.heap m) (N : News h₀ L s.heap ((e, excO C none tp) :: r)) (hr : ∀ p ∈ r, p.1 ≠ e) (X₀ : K.In h₀)
    (ho : K.lookup C = some (excClassObj nm q C N0 bs bm true sn sub ab col dd k0 k1 k2 k3 k5 "Exception.__new__")) (hb : excTail bm = true)
    (hs : findIn K (.ref C) "__setattr__" = some (some (.builtin "object.__setattr__"))) (ht : takerIn K C name = some none)
    (hq : ∀ h' dx tk, Fr h₀ L h' m → News h₀ L h' ((e, excO C (some dx) tp) :: r) → Q () { s with heap := h', toks := tk }) :
    wpAny (model prog w) A (setAttr (.ref e) name v) Q E s :=
  set_plain (X₀.keeps F.keep) (I := (⟨(N (e, _) (.head _)).1, rfl, rfl, trivial⟩ : InstAt s.heap e (excO C none tp) C none)) hs (exc_osa (s := { s with toks := s.toks + 1 }) F N hr X₀ ho hb ht fun h' dx tk F' N' => hq h' dx tk F' N')
theorem exc_raise {M : Model} {env : Env} {x : PySem.Expr} {pos : Pos} {Q : Flow → Shared → Prop} (hh : A.handled = none) (hb : excTail bm = true)
    (h : wpAny M A (eval x env) (fun v s₁ => Stop (∃ e dct tp, v = .ref e ∧ s₁.heap.get? C = some (excClassObj nm q C N0 bs bm true sn sub ab col dd k0 k1 k2 k3 k5 "Exception.__new__") ∧ s₁.heap.get? e = some (excO C dct tp) ∧ E (.ref e) s₁)) E s) :
    wpAny M A (exec (.Raise (some x) none pos) env) Q E s := by
  have hcB : (Value.ref C :: bm).contains (.type "BaseException") = true := by rw [exc_has hb]; decide
  rw [arm_exec_Raise]
  simp only [evalOpt, Option.map]
  refine wpAny_bind (wpAny_standAt ?_)
  unfold raiseStmt
  refine wpAny_bind (wpAny_bind (wpAny_mono h (fun v s₁ h₁ => wpAny_bind (wpAny_standAt (wpAny_pure ?_))) fun _ _ x => x))
  obtain ⟨e, dct, tp, rfl, hC, he, hE⟩ := h₁
  obtain ⟨hp, g, d, tk, os⟩ := s₁
  repeat (first | with_reducible refine wpAny_loadPart_at he ?_ | with_reducible refine wpAny_loadPart_at hC ?_ | (with_reducible refine wpAny_isSubtype_exc hC ?_; rw [hcB]) | wp_step)
  exact wpAny_raiseNew_none hh hE
end
section
variable {M : Model} {A : Around} {E : Value → Shared → Prop} {s' : Shared} {base g : Heap} {outer : List Env} {L a e : Addr} {m : Str → Option Value} {name : Str} {scope : Scope} {cd : Value} {Q : Unit → Shared → Prop}
theorem leave_exc {C tp : Addr} {dct : Option Addr} (K : Below A base outer g) (F : Fr g L s'.heap m) (he : s'.heap.get? e = some (excO C dct tp)) (hen : g.get? e = none)
    (hQ : ∀ h', RaisedSN base g outer e (.ref C) [] h' → g.UpToSlots h' → Q () { s' with heap := h' }) (hk : scope.kind = .function := by rfl) :
    wpAny M (A.deeper (envOf name scope L a cd)) (leaving (envOf name scope L a cd) (.ref e)) Q E s' := by
  have K' := K.push (name := name) (a := a) (cd := cd) F hk
  have hin : ∀ env ∈ (envOf name scope L a cd :: outer), ∀ b, env.frame = some b → b ∈ e :: (envOf name scope L a cd :: outer).filterMap (·.frame) := fun env he b hb => .tail _ (List.mem_filterMap.mpr ⟨env, he, hb⟩)
  have st : base.StaysIn (hideAll s'.heap (e :: (envOf name scope L a cd :: outer).filterMap (·.frame))) := fun b o q => hideAll_get _ (K'.stays b o q) fun hm => by
    rcases List.mem_cons.mp hm with rfl | hm
    · rw [fresh_of_stays K.stays hen] at q; cases q
    · rw [(K'.frames.mem hm).1] at q; cases q
  have sg : ∀ b o, g.get? b = some o → b ∉ outer.filterMap (·.frame) → (hideAll s'.heap (e :: (envOf name scope L a cd :: outer).filterMap (·.frame))).get? b = some o := fun b o q nm => hideAll_get _ (F.keep b o q) fun hm => by
    rcases List.mem_cons.mp hm with rfl | hm
    · rw [hen] at q; cases q
    · rcases kts_mem hm with z | z
      · rw [z, kts_self F] at q
        cases q
      · exact nm z
  have hen' : (hideAll s'.heap (e :: (envOf name scope L a cd :: outer).filterMap (·.frame))).get? e = none := hideAll_none _ (.head _)
  refine wpAny_leaving_firstW (a0 := .ref tp) K'.stack (funFrames_hide K'.frames hin) rfl he (fun b o hb => of_hideAll _ hb) hen' rfl rfl rfl fun h' hL => ?_
  obtain ⟨k1, ⟨_, _, k2⟩, k3, k4⟩ := hL
  exact hQ h' ⟨_, .ref tp, st, sg, (fun q hq => nomatch hq), k1, hen', k2, k3⟩ ((Heap.UpToSlots.of_keeps F.keep).trans k4)
end
end
section
theorem exc51_of {K : Frag} {nm q : Str} {N0 : Addr} {bs bm : List Value} {sn : List Str} {sub : List Value} {ab : Bool} {col : Option Bool} {dd : Option Addr} {k0 k1 k2 k3 k5 : Option Value}
    (ho : K.lookup 51 = some (excClassObj nm q 51 N0 bs bm true sn sub ab col dd k0 k1 k2 k3 k5 "Exception.__new__")) (hb : excTail bm = true) :
    ∃ (nm q : Str) (N0 : Addr) (bs bm : List Value) (sn : List Str) (sub : List Value) (ab : Bool) (col : Option Bool) (dd : Option Addr) (k0 k1 k2 k3 k5 : Option Value),
    K.lookup 51 = some (excClassObj nm q 51 N0 bs bm true sn sub ab col dd k0 k1 k2 k3 k5 "Exception.__new__") ∧ excTail bm = true := ⟨_, _, _, _, _, _, _, _, _, _, _, _, _, _, _, ho, hb⟩
theorem exc51 (w : World) : ∃ (nm q : Str) (N0 : Addr) (bs bm : List Value) (sn : List Str) (sub : List Value) (ab : Bool) (col : Option Bool) (dd : Option Addr) (k0 k1 k2 k3 k5 : Option Value),
    (Mine.hd.heap_39 w.params).lookup 51 = some (excClassObj nm q 51 N0 bs bm true sn sub ab col dd k0 k1 k2 k3 k5 "Exception.__new__") ∧ excTail bm = true := by
  k_dflt (refine' exc51_of (K := Mine.hd.heap_39 w.params) ?h1 ?h2; (case h1 => k_is))
  rfl
theorem exc_news {h₀ h h' : Heap} {L e : Addr} {m : Str → Option Value} {C : Addr} {rest : List Value} (F : Fr h₀ L h m) (hm : Heap.MadeExcOf h h' e (.ref C) rest) : ∃ tp, News h₀ L h' [(e, excO C none tp)] := by
  obtain ⟨tp, h1, h2, h3⟩ := hm.there
  refine ⟨tp, fun p hp => ?_⟩
  rw [List.mem_singleton.mp hp]
  refine ⟨h1, fun q => ?_, ?_⟩
  · obtain ⟨o, es, ep, ho, _⟩ := F.ns
    have := hm.new
    rw [show e = L from q, ho] at this
    cases this
  · cases q : h₀.get? e with
    | none => rfl
    | some o => have := F.keep _ _ q; rw [hm.new] at this; cases this
inductive Inv_DRaise_0 (s : Shared) (g' : Heap) (L' : Addr) (u : Tok) (k : Int) (t : Tok) (d : BinAt) (c : DecAt) (octs : List Int) (n' : Nat) (s₁ : Shared) : Prop
  | mk : ∀ z b2 hi at_ ta th h tk u1 u2 u3 u4 vs ws n1 n2, (s₁ = { s with heap := h, toks := tk }) → (Fr g' L' h (fun zz => if zz = Str.ofString "at" then some (.int at_ ta) else if zz = Str.ofString "high" then some (.int hi th) else List.lookup zz [(Str.ofString "sizes", .int 20 u), (Str.ofString "at", .int k t), (Str.ofString "bins", .ref d.e), (Str.ofString "decoder", .ref c.e)])) → (News g' L' h (dbothL c z u1 u2 u3 u4 d vs ws n1 n2)) → (DGood octs z b2) → (IntsAre vs b2.ss) → (IntsAre ws b2.es) → (1 ≤ hi) → (hi < 32768) → (hi * 2 ^ n' = 65536) → (20 ≤ at_) → (at_ + n' ≤ 36) → (getUp n' z b2 hi at_ = none) → Inv_DRaise_0 s g' L' u k t d c octs n' s₁
set_option maxHeartbeats 8000000 in
theorem gsize_raise {prog : Program} {w : World} {mean : ExcName → Option Value} {mg mb : Str → Option Value} {c : DecAt} {y : Dec} {t1 t2 t3 t4 : Tok} {d : BinAt} {b : Bin} {vs ws : List Value} {n1 n2 : Nat} {k : Int} {t u : Tok} {octs : List Int}
    (o : dapart c d) (hg : DGood octs y b) (hv : IntsAre vs b.ss) (hw : IntsAre ws b.es) (k0 : 0 ≤ k) (k1 : k < 49) (hr : getSize y b k = none) :
    RaiseC prog w mean mg mb 67 60 1000 [.ref c.e, .ref d.e, .int k t, .int 20 u] (dbothL c y t1 t2 t3 t4 d vs ws n1 n2) 51 := by
  intro dp un gd cn cs a ccd cl outer A₀ base h₀ L m s Q E B F X N T hk hd hu hret
  refine .call ?_
  k_dflt (refine' codeC.code_defE ?k1 ?k2 ?k3 ?k4 ?k5 ?kA ?kF ?kK ?k6 ?k7 ?k8 ?k9 ?kB ?_ ?c2 ?c3 ?c4 ?c5; k_extra "m_open")
  intro g' L' h' KG' FG' F' N' B' X' T' lN'
  try dsimp only
  first | (refine wpAny_folded ?_; intro M9 e9 A9; k_fold) | (refine wpC.folded ?_; intro M9 e9 A9 q9)
  refine .execs_cons (.AssignName (.MethodCall ?_))
  k_steps
  k_dflt (refine' .callWith_KL (K := Mine.hd.heap_39 w.params) ?k1 ?_; (case k1 => k_is); k_whole)
  k_steps
  rename Fr g' L' _ _ => FF
  rename News g' L' _ _ => NN
  have NP : ∃ u1 u2 u3 u4, News g' L' _ (dbothL c y u1 u2 u3 u4 d vs ws n1 n2) := ⟨_, _, _, _, NN⟩
  obtain ⟨u1, u2, u3, u4, NP⟩ := NP
  have hP := fun t => dget_ctr (prog := prog) (w := w) (mean := mean) (mg := mg) (mb := mb) (c := c) (y := y) (t1 := u1) (t2 := u2) (t3 := u3) (t4 := u4) (d := d) (b := b) (vs := vs) (ws := ws) (n1 := n1) (n2 := n2) (k := k) (t := t) o hg.oct hg.len hg.at0 hg.big hg.bin ‹IntsAre vs _› ‹IntsAre ws _› k0 k1
  refine .never ?_
  k_dflt (refine' CtrC.use (hP _) ?k1 ?k2 ?k3 ?k4 ?k5 ?k6 ?k7 ?k8 ?_; (case k1 => k_asm); (case k2 => exact FF); (case k3 => k_asm); (case k4 => exact NP); (case k5 => k_asm); (case k6 => exact rfl); (case k7 => exact bnd2 1 40 hd rfl); (case k8 => exact bnd2 3 500 hu rfl))
  clear hP NN NP FF
  rintro _ _ h2 tk2 ⟨tv, w1, w2, w3, w4, vs2, ws2, m1, m2, rfl, hv2, hw2, rfl⟩ F2 N2 K2
  have hg2 := hg.get k0 k1
  unfold getSize at hr
  k_steps
  refine .execs_cons (.IfL ?_)
  k_steps
  · rename _ = (0 : Int) => hb0
    rw [if_pos hb0] at hr
    cases hr
  · rename ¬ _ = (0 : Int) => hb0
    rw [if_neg hb0] at hr
    have hs1 : (decGet y b k).2.2 = 1 := by have := hg2.2; (first | lia | omega)
    refine .execs_nil ?_
    dsimp only
    k_extra "m_start"
    rename Fr g' L' _ _ => F3
    rename News g' L' _ _ => N3
    obtain ⟨ta0, th0, F4⟩ : ∃ ta th, Fr g' L' _ (fun yy => if yy = Str.ofString "at" then some (.int 20 ta) else if yy = Str.ofString "high" then some (.int (decGet y b k).2.2 th) else List.lookup yy [(Str.ofString "sizes", .int 20 u), (Str.ofString "at", .int k t), (Str.ofString "bins", .ref d.e), (Str.ofString "decoder", .ref c.e)]) := ⟨_, _, (frNorm [Str.ofString "at", Str.ofString "high"] F3 (by (repeat refine off_l (by exact rfl) ?_); (repeat refine off_r (by exact rfl) ?_); exact off_refl) rfl)⟩
    dsimp only
    refine .execs_cons (wpC.WhileR (n₀ := 16) PassesOwn.leaving (Inv_DRaise_0 s g' L' u k t d c octs)
      ⟨(decGet y b k).1, (decGet y b k).2.1, (decGet y b k).2.2, 20, ta0, th0, _, _, w1, w2, w3, w4, vs2, ws2, m1, m2, rfl, F4, N3, hg2.1, hv2, hw2, by (first | lia | omega), by (first | lia | omega), by rw [hs1]; decide, by decide, by decide, hr⟩ ?_)
    clear F4 N3 F3
    rintro n' s₁ ⟨z, b2, hi, at_, ta, th, h, tk, u1, u2, u3, u4, vs, ws, n1, n2, rfl, FF, NN, hy, hv, hw, q0, q00, q01, q1, q2, qr⟩ P9
    obtain ⟨n'', rfl⟩ : ∃ k, n' = k + 1 := by
      cases n' with
      | zero => exfalso; rw [Int.pow_zero] at q01; (first | lia | omega)
      | succ k => exact ⟨k, rfl⟩
    rw [getUp] at qr
    have hpw := Int.pow_succ 2 n''
    refine .Compare (.MethodCall ?_)
    k_steps
    k_dflt (refine' .callWith_KL (K := Mine.hd.heap_39 w.params) ?k1 ?_; (case k1 => k_is); k_whole)
    k_steps
    rename Fr g' L' _ _ => FF
    rename News g' L' _ _ => NN
    have NP : ∃ u1 u2 u3 u4, News g' L' _ (dbothL c z u1 u2 u3 u4 d vs ws n1 n2) := ⟨_, _, _, _, NN⟩
    obtain ⟨u1, u2, u3, u4, NP⟩ := NP
    have hP := fun t => dget_ctr (prog := prog) (w := w) (mean := mean) (mg := mg) (mb := mb) (c := c) (y := z) (t1 := u1) (t2 := u2) (t3 := u3) (t4 := u4) (d := d) (b := b2) (vs := vs) (ws := ws) (n1 := n1) (n2 := n2) (k := at_) (t := t) o hy.oct hy.len hy.at0 hy.big hy.bin ‹IntsAre vs _› ‹IntsAre ws _› (show 0 ≤ at_ by (first | lia | omega)) (show at_ < 49 by (first | lia | omega))
    refine .never ?_
    k_dflt (refine' CtrC.use (hP _) ?k1 ?k2 ?k3 ?k4 ?k5 ?k6 ?k7 ?k8 ?_; (case k1 => k_asm); (case k2 => exact FF); (case k3 => k_asm); (case k4 => exact NP); (case k5 => k_asm); (case k6 => exact rfl); (case k7 => exact bnd2 1 40 hd rfl); (case k8 => exact bnd2 3 500 hu rfl))
    clear hP NN NP FF
    rintro _ _ h2 tk2 ⟨tv, w1, w2, w3, w4, vs2, ws2, m1, m2, rfl, hv2, hw2, rfl⟩ F2 N2 K2
    have hg2 := hy.get (show 0 ≤ at_ by (first | lia | omega)) (show at_ < 49 by (first | lia | omega))
    refine .of ?_
    k_steps
    · rename _ = (1 : Int) => hb1
      rw [if_pos hb1] at qr
      k_extra "m_start"
      refine .execs_cons (.IfL ?_)
      k_steps
      · obtain ⟨nm, q, N0, bs, bm, sn, sub, ab, col, dd, k0', k1', k2', k3', k5', hlo, hbm⟩ := exc51 w
        refine .consL (exc_raise (C := 51) (nm := nm) (q := q) (N0 := N0) (bs := bs) (sn := sn) (sub := sub) (ab := ab) (col := col) (dd := dd) (k0 := k0') (k1 := k1') (k2 := k2') (k3 := k3') (k5 := k5') rfl hbm ?_)
        k_steps
        k_dflt (refine' exc_make ?j1 hlo hbm ?j2 ?j3 ?j4 ?_; (case j1 => k_in); (case j2 => k_is); (case j3 => k_is); (case j4 => exact Nat.le_of_ble_eq_true rfl))
        intro h5 e hmade
        rename Fr g' L' _ _ => FF
        obtain ⟨tp, NE⟩ := exc_news FF hmade
        have FE := FF.keeps hmade.keeps
        clear FF
        have hen : g'.get? e = none := (NE _ (.head _)).2.2
        refine wpAny_call ?_
        k_dflt (refine' code_defR ?k1 ?k2 ?k3 ?k4 ?k5 ?kA ?kF ?kK ?k6 ?k7 ?k8 ?k9 ?kB ?_ ?c2 ?c3 ?c4 ?c5; (case kA => exact rfl); (case kF => exact rfl); (case kK => exact rfl); (case k1 => k_asm); (case k2 => exact FE); (case k3 => k_asm); (case k4 => exact NE); (case k5 => k_asm); (case k6 => k_is); (case k7 => k_is); (case k8 => exact bnd2 1 1 hd rfl); (case k9 => exact BindsTo.of_eq rfl); (case c5 => decide); (case kB => exact locs rfl); (case c2 => exact rfl); (case c3 => exact rfl); (case c4 => exact rfl); k_whole)
        intro g2 L2 h6 KG2 FG2 F6 N6 B6 X6 T6 l6
        try dsimp only
        try k_fold
        k_steps
        rename Fr g2 L2 _ _ => F7
        k_dflt (refine' method_type F7 X6 ?jm (by decide +kernel) ?je ?jh ?_; (case jm => kernel_rfl); (case je => k_is); (case jh => k_handed))
        k_steps
        rename Fr g2 L2 _ _ => F8
        rename News g2 L2 _ _ => N8
        refine exc_init F8 N8 (fun p hp => nomatch hp) X6 hlo hbm fun h7 tp7 F9 N9 => ?_
        clear F8 N8
        k_steps
        rename Fr g2 L2 _ _ => F10
        rename News g2 L2 _ _ => N10
        k_dflt (refine' exc_set F10 N10 (fun p hp => nomatch hp) X6 hlo hbm ?js ?jt ?_; (case js => k_is); (case jt => k_is))
        intro h8 dx tk8 F11 N11
        clear F10 N10
        k_steps
        rename Fr g' L' _ _ => kF
        rename News g' L' _ _ => kN
        refine Stop.mk ⟨e, some dx, tp7, rfl, (X'.keeps kF.keep) _ _ hlo, (kN _ (.head _)).1, ?_⟩
        exact leave_exc B' kF (kN _ (.head _)).1 hen fun h9 hR hU => hret _ _ _ _ FG' hR hU
      · rename ¬ _ => hm
        rw [if_neg hm] at qr
        refine .execs_nil ?_
        dsimp only
        k_extra "m_start"
        rename Fr g' L' _ _ => F3
        rename News g' L' _ _ => N3
        obtain ⟨ta2, th2, F4⟩ : ∃ ta th, Fr g' L' _ (fun yy => if yy = Str.ofString "at" then some (.int (at_ + 1) ta) else if yy = Str.ofString "high" then some (.int (hi * 2) th) else List.lookup yy [(Str.ofString "sizes", .int 20 u), (Str.ofString "at", .int k t), (Str.ofString "bins", .ref d.e), (Str.ofString "decoder", .ref c.e)]) := ⟨_, _, (frNorm [Str.ofString "at", Str.ofString "high"] F3 (by (repeat refine off_l (by exact rfl) ?_); (repeat refine off_r (by exact rfl) ?_); exact off_refl) rfl)⟩
        exact .execs_nil ⟨n'', Nat.lt_succ_self _, _, _, hi * 2, at_ + 1, ta2, th2, _, _, _, _, _, _, vs2, ws2, m1, m2, rfl, F4, N3, hg2.1, hv2, hw2, by (first | lia | omega), by (first | lia | omega), by rw [← q01, hpw, Int.mul_assoc, Int.mul_comm 2], by (first | lia | omega), by (first | lia | omega), qr⟩
    · rename _ ≠ (1 : Int) => hb1
      rw [if_neg hb1] at qr
      cases qr
end
section
theorem newsStay {h₀ h h' : Heap} {L : Addr} {A : List Addr} {R : List (Addr × Obj)} (N : News h₀ L h R) (K : Keeps A h h') (hs : ∀ q ∈ R, ∀ a ∈ A, q.1 ≠ a) : News h₀ L h' R := fun p hp =>
  ⟨K _ _ (N p hp).1 (fun hm => hs p hp p.1 hm rfl), (N p hp).2⟩
/-- a range's iterator -/
noncomputable abbrev riO (x left step : Int) : Obj := { cls := .type "range_iterator", data := .fields #[rawInt x, rawInt left, rawInt step] }
section
variable {prog : Program} {w : World} {A : Around} {E : Value → Shared → Prop} {s : Shared} {h₀ : Heap} {L : Addr} {m : Str → Option Value} {news rest : List (Addr × Obj)}
theorem rangeD {r : Addr} {a b c : Int} {t u v : Tok} {Q : Value → Shared → Prop} (F : Fr h₀ L s.heap m) (N : News h₀ L s.heap news) (hr : IsRange s.heap r a b c t u v) (hsm : Builtin.Range.small a b c = true)
    (h : ∀ I h', Fr h₀ L h' m → News h₀ L h' ((I, riO a (Builtin.Range.rangeSize a b c) c) :: news) → (∀ q ∈ news, q.1 ≠ I) → Q (.ref I) { s with heap := h' }) : wpAny (model prog w) A (pyIter (.ref r)) Q E s :=
  wpAny_pyIter_range hr hsm (h _ _ (F.push _) (N.push F _) fun q hq => Nat.ne_of_lt (Heap.lt_size (N q hq).1))
theorem rnextD {I : Addr} {x left step : Int} {Q : Option Value → Shared → Prop} (F : Fr h₀ L s.heap m) (N : News h₀ L s.heap ((I, riO x left step) :: rest)) (hne : ∀ q ∈ rest, q.1 ≠ I) (hl : 0 < left)
    (h : ∀ h', Fr h₀ L h' m → News h₀ L h' ((I, riO (x + step) (left - 1) step) :: rest) → Q (some (.int x s.toks)) { s with heap := h', toks := s.toks + 1 }) : wpAny (model prog w) A (pyNext (.ref I)) Q E s := by
  have z := N (I, _) (.head _)
  refine wpAny_pyNext_range_item z.1 hl fun h' hit hsb => h h' (F.change hsb z.2.1 z.2.2) fun q hq => ?_
  rcases List.mem_cons.mp hq with rfl | hq
  · exact ⟨hit, z.2⟩
  · exact ⟨hsb.extBut _ _ (hne q hq) (N q (.tail _ hq)).1, (N q (.tail _ hq)).2⟩
theorem rendD {I : Addr} {x left step : Int} {Q : Option Value → Shared → Prop} (hh : A.handled = none) (F : Fr h₀ L s.heap m) (N : News h₀ L s.heap ((I, riO x left step) :: rest)) (hne : ∀ q ∈ rest, q.1 ≠ I) (hl : left ≤ 0)
    (h : ∀ h', Fr h₀ L h' m → News h₀ L h' rest → Q none { s with heap := h' }) : wpAny (model prog w) A (pyNext (.ref I)) Q E s := by
  have z := N (I, _) (.head _)
  refine wpAny_pyNext_range_end hh z.1 hl fun h' hsb => h h' ?_ fun q hq => ⟨hsb q.1 q.2 (hne q hq) (N q (.tail _ hq)).1, (N q (.tail _ hq)).2⟩
  refine ⟨F.ns.at' fun o e => hsb L o (Ne.symm z.2.1) e, fun b o e => hsb b o (fun q => ?_) (F.keep b o e), F.above⟩
  subst q
  have := z.2.2
  dsimp only at this
  rw [this] at e
  cases e
end
/-- what the law puts to be refused: a one, then ones in i further bins -/
noncomputable def refDs (k : Int) (i : Nat) : List (Int × Int) := (k, 1) :: (List.range i).map (fun i : Nat => (20 + (i : Int), (1 : Int)))
theorem refDs_succ (k : Int) (i : Nat) : refDs k (i + 1) = refDs k i ++ [(20 + (i : Int), 1)] := by
  unfold refDs
  rw [List.range_succ, List.map_append]
  rfl
theorem refDs_ok {k : Int} (k0 : 0 ≤ k) (k1 : k < 20) {i : Nat} (hi : i ≤ 15) : Decs (refDs k i) ∧ (refDs k i).length ≤ 16 ∧ ∀ d ∈ refDs k i, d.2 = 0 ∨ d.2 = 1 := by
  have key : ∀ d ∈ refDs k i, (0 ≤ d.1 ∧ d.1 < 49) ∧ (d.2 = 0 ∨ d.2 = 1) := by
    intro d hd
    unfold refDs at hd
    simp only [List.mem_cons, List.mem_map, List.mem_range] at hd
    rcases hd with h | ⟨j, hj, h⟩
    · subst h; exact ⟨⟨k0, by dsimp only; (first | lia | omega)⟩, .inr rfl⟩
    · subst h; exact ⟨⟨by dsimp only; (first | lia | omega), by dsimp only; (first | lia | omega)⟩, .inr rfl⟩
  exact ⟨fun d hd => (key d hd).1, by unfold refDs; simp only [List.length_cons, List.length_map, List.length_range]; (first | lia | omega), fun d hd => (key d hd).2⟩
theorem encRun_refDs (q : Enc × Bin) (k : Int) (i : Nat) : encRun q (refDs k (i + 1)) = encPut (encRun q (refDs k i)).1 (encRun q (refDs k i)).2 (20 + (i : Int)) 1 := by
  rw [refDs_succ, encRun_append]
  rfl
end
section
inductive Inv_LRef_0 (s : Shared) (g' : Heap) (L' : Addr) (d1 : BinAt) (c1 : EncAt) (k : Int) (t : Tok) (I : Addr) (n : Nat) (s' : Shared) : Prop
  | mk : ∀ (i : Nat) (t1 t2 t3 : Tok) (vs ws : List Value) (n1 n2 : Nat) (vp : Option Value) (h : Heap) (tk : Nat) (x l : Int), (n + i = 15) → (x = (i : Int)) → (l = 15 - (i : Int)) → (s' = { s with heap := h, toks := tk }) → (Fr g' L' h (fun zz => if zz = Str.ofString "place" then vp else if zz = Str.ofString "bins" then some (.ref d1.e) else if zz = Str.ofString "encoder" then some (.ref c1.e) else List.lookup zz [(Str.ofString "at", .int k t)])) → (News g' L' h ((I, riO x l 1) :: bothL c1 (encRun (enc0, bin0) (refDs k i)).1 t1 t2 t3 d1 vs ws n1 n2)) → (IntsAre vs (encRun (enc0, bin0) (refDs k i)).2.ss) → (IntsAre ws (encRun (enc0, bin0) (refDs k i)).2.es) → Inv_LRef_0 s g' L' d1 c1 k t I n s'
set_option maxHeartbeats 8000000 in
theorem refused_ctr {prog : Program} {w : World} {mean : ExcName → Option Value} {mg mb : Str → Option Value} {k : Int} {t : Tok} (k0 : 0 ≤ k) (k1 : k < 20)
    (dp un : Nat) (gd : Option (List Code)) (cn : Str) (cs : Scope) (a : Addr) (ccd : Value) (A₀ : Around) (h₀ : Heap) (L : Addr) (m : Str → Option Value) (s : Shared) (Q : Value → Shared → Prop)
    (B : Below A₀ h₀ [] h₀) (F : Fr h₀ L s.heap m) (X : (Mine.hd.heap_39 w.params).In h₀) (T : Top VW LO mean mg mb h₀) (hk : cs.kind = .function) (hd : dp + 100 < recursionLimit) (hu : un + 2000 < cLine)
    (hret : ∀ h' tk', Fr h₀ L h' m → Q (.bool true) { s with heap := h', toks := tk' }) :
    wpC (model prog w) (ktrTop dp un gd cn cs L a ccd [] []) (call (.ref 396) [.int k t]) Q (fun _ _ => False) s := by
  have N : News h₀ L s.heap [] := News.nil
  refine .call ?_
  k_dflt (refine' codeC.code_defS0 B F ?k3 N T ?kA ?k6 ?k7 ?k8 ?k9 ?kB ?_ ?kK ?c2 ?c3 ?c4 ?c5; (case k3 => exact X); (case kA => exact rfl); (case k6 => k_is); (case k7 => k_is); (case k8 => exact Nat.lt_of_le_of_lt (Nat.le_add_right _ _) (by assumption)); (case k9 => exact BindsTo.of_eq rfl); (case kB => exact locs rfl); (case kK => assumption); (case c2 => exact rfl); (case c3 => exact rfl); (case c4 => exact rfl); (case c5 => decide); k_whole)
  intro g' L' h' FG' F' N' B' X' T' D'
  try dsimp only
  first | (refine wpAny_folded ?_; intro M9 e9 A9; k_fold) | (refine wpC.folded ?_; intro M9 e9 A9 q9)
  refine .execs_cons (.AssignTupleS (names := [Str.ofString "encoder", Str.ofString "bins"]) (.Tuple ?_))
  refine .args_cons (.CallName ?_)
  k_steps
  k_dflt (refine' .callWith_K0 (K := Mine.hd.heap_39 w.params) ?k1 ?k2 ?_; (case k1 => k_in); (case k2 => k_is))
  have hC := enc_new (prog := prog) (w := w) (mean := mean) (mg := mg) (mb := mb)
  rename Fr g' L' _ _ => FF
  k_dflt (refine' NewC.use hC ?k1 ?k2 ?k3 ?k5 ?k6 ?k7 ?k8 ?_; (case k1 => k_asm); (case k2 => exact FF); (case k3 => k_asm); (case k5 => k_asm); (case k6 => exact rfl); (case k7 => exact bnd2 1 20 hd rfl); (case k8 => exact bnd2 3 200 hu rfl))
  clear hC FF
  rintro _ _ h2 tk2 ⟨c1, t1, t2, t3, rfl, c1o, c1z, rfl⟩ F2 M1 J1
  refine .args_cons (.CallName ?_)
  k_steps
  k_dflt (refine' .callWith_KL (K := Mine.hd.heap_39 w.params) ?k1 ?_; (case k1 => k_is); k_whole)
  k_steps
  have hC := fun t => bin_new (t := t) (prog := prog) (w := w) (mean := mean) (mg := mg) (mb := mb)
  rename Fr g' L' _ _ => FF
  k_dflt (refine' NewC.use (hC _) ?k1 ?k2 ?k3 ?k5 ?k6 ?k7 ?k8 ?_; (case k1 => k_asm); (case k2 => exact FF); (case k3 => k_asm); (case k5 => k_asm); (case k6 => exact rfl); (case k7 => exact bnd2 1 20 hd rfl); (case k8 => exact bnd2 3 200 hu rfl))
  clear hC FF
  rintro _ _ h3 tk3 ⟨d1, vs, ws, n1, n2, rfl, d1o, d1z, hv, hw, rfl⟩ F3 M2 J2
  have o1 : apart c1 d1 := ⟨c1o, by rw [d1z]; exact newsLt M1 (.tail _ (.tail _ (.head _))), d1o⟩
  have N3 : News g' L' h3 (bothL c1 enc0 t1 t2 t3 d1 vs ws n1 n2) := newsJoin M1 M2 J2
  clear M1 M2 J1 J2 c1z d1z
  refine .args_nil ?_
  k_steps
  refine .execs_cons (.Expr (.MethodCall ?_))
  k_steps
  k_dflt (refine' .callWith_KL (K := Mine.hd.heap_39 w.params) ?k1 ?_; (case k1 => k_is); k_whole)
  k_steps
  rename News g' L' _ _ => NN
  have NP := News.perm NN (news' := bothL c1 enc0 t1 t2 t3 d1 vs ws n1 n2) (fun p hp => .tail _ hp)
  rename Fr g' L' _ _ => FF
  have hC := fun bit t u => put_ctr (prog := prog) (w := w) (mean := mean) (mg := mg) (mb := mb) (c := c1) (x := (enc0, bin0).1) (t1 := t1) (t2 := t2) (t3 := t3) (d := d1) (b := (enc0, bin0).2) (vs := vs) (ws := ws) (n1 := n1) (n2 := n2) (k := k) (bit := bit) (t := t) (u := u) o1 good0.ok good0.big (by decide) good0.bin hv hw k0 (by (first | lia | omega))
  k_dflt (refine' CtrC.use (hC _ _ _) ?k1 ?k2 ?k3 ?k4 ?k5 ?k6 ?k7 ?k8 ?_; (case k1 => k_asm); (case k2 => exact FF); (case k3 => k_asm); (case k4 => exact NP); (case k5 => k_asm); (case k6 => exact rfl); (case k7 => exact bnd2 1 40 hd rfl); (case k8 => exact bnd2 3 500 hu rfl))
  clear hC
  rintro _ _ h4 tk4 ⟨rfl, w1, w2, w3, vs1, ws1, m1, m2, hv1, hw1, rfl⟩ F4 N4 K4
  clear NN FF NP K4 hv hw
  dsimp only
  refine .execs_cons (.For ?_)
  k_steps
  rename Fr g' L' _ _ => FF
  rename IsRange _ _ _ _ _ _ _ _ => RR
  rename News g' L' _ _ => NN
  have NQ := News.perm NN (news' := bothL c1 (encPut enc0 bin0 k 1).1 w1 w2 w3 d1 vs1 ws1 m1 m2) (fun p hp => by first | exact hp | exact .tail _ hp)
  refine rangeD FF NQ RR (by decide) fun I h5 F5 N5 hne => ?_
  rw [show Builtin.Range.rangeSize 0 15 1 = 15 by decide] at N5
  have hnI : ∀ a ∈ bothA c1 d1, a ≠ I := neAll hne
  clear FF NN NQ RR hne
  have good : ∀ i, i ≤ 15 → Good 300 (encRun (enc0, bin0) (refDs k i)).1 (encRun (enc0, bin0) (refDs k i)).2 := fun i hi => good_run good0 (refDs_ok k0 k1 hi).1 (by have := (refDs_ok k0 k1 hi).2.1; (first | lia | omega))
  refine codeC.forLoop (Inv_LRef_0 s g' L' d1 c1 k t I) (fun n s' hinv => ?_) 15
    ⟨0, w1, w2, w3, vs1, ws1, m1, m2, none, _, _, 0, 15, rfl, rfl, rfl, rfl, (frNorm [Str.ofString "place", Str.ofString "bins", Str.ofString "encoder"] F5 (by (repeat refine off_l (by exact rfl) ?_); (repeat refine off_r (by exact rfl) ?_); exact off_refl) rfl), N5, hv1, hw1⟩
  clear F5 N5 hv1 hw1
  obtain ⟨i, t1, t2, t3, vs, ws, n1, n2, vp, h, tk, x, l, hni, hxi, hli, rfl, FF, NN, hv, hw⟩ := hinv
  intro P9
  refine Or.elim (Nat.lt_or_ge i 15) (fun hi => ?_) (fun hi => ?_)
  · refine rnextD FF NN (fun q hq => hnI q.1 (List.mem_map_of_mem (f := Prod.fst) hq)) (by (first | lia | omega)) fun h' F2 N2 => ?_
    clear FF NN
    have gX := good i (by (first | lia | omega))
    have hrun := encRun_refDs (enc0, bin0) k i
    generalize encRun (enc0, bin0) (refDs k i) = X at *
    generalize hI1 : riO (x + 1) (l - 1) 1 = oI at N2
    rw [← hxi] at hrun
    k_steps
    refine .execs_cons (.Expr (.MethodCall ?_))
    k_steps
    k_dflt (refine' .callWith_KL (K := Mine.hd.heap_39 w.params) ?k1 ?_; (case k1 => k_is); k_whole)
    k_steps
    rename News g' L' _ _ => NN
    have NP := News.perm NN (news' := bothL c1 X.1 t1 t2 t3 d1 vs ws n1 n2) (fun p hp => .tail _ hp)
    have NI := News.perm NN (news' := [(I, oI)]) (fun p hp => by rw [List.mem_singleton.mp hp]; exact .head _)
    rename Fr g' L' _ _ => FF
    have hC := fun bit t u => put_ctr (prog := prog) (w := w) (mean := mean) (mg := mg) (mb := mb) (c := c1) (x := X.1) (t1 := t1) (t2 := t2) (t3 := t3) (d := d1) (b := X.2) (vs := vs) (ws := ws) (n1 := n1) (n2 := n2) (k := 20 + x) (bit := bit) (t := t) (u := u) o1 gX.ok gX.big (by have := gX.len; (first | lia | omega)) gX.bin hv hw (by (first | lia | omega)) (by (first | lia | omega))
    k_dflt (refine' CtrC.use (hC _ _ _) ?k1 ?k2 ?k3 ?k4 ?k5 ?k6 ?k7 ?k8 ?_; (case k1 => k_asm); (case k2 => exact FF); (case k3 => k_asm); (case k4 => exact NP); (case k5 => k_asm); (case k6 => exact rfl); (case k7 => exact bnd2 1 40 hd rfl); (case k8 => exact bnd2 3 500 hu rfl))
    clear hC
    rintro _ _ h4 tk4 ⟨rfl, w1, w2, w3, vs1, ws1, m1, m2, hv1, hw1, rfl⟩ F4 N4 K4
    rw [← hrun] at hv1 hw1 N4
    have NJ := newsStay NI K4 (fun q hq a ha => by rw [List.mem_singleton.mp hq]; exact Ne.symm (hnI a ha))
    dsimp only
    exact .execs_nil ⟨n - 1, by (first | lia | omega), i + 1, w1, w2, w3, vs1, ws1, m1, m2, _, _, _, x + 1, l - 1, by (first | lia | omega), by (first | lia | omega), by (first | lia | omega), rfl, (frNorm [Str.ofString "place", Str.ofString "bins", Str.ofString "encoder"] F4 (by (repeat refine off_l (by exact rfl) ?_); (repeat refine off_r (by exact rfl) ?_); exact off_refl) rfl), (fun p hp => by
      rcases List.mem_cons.mp hp with rfl | hp
      · rw [hI1]; exact NJ _ (.head _)
      · exact N4 p hp), hv1, hw1⟩
  obtain rfl : i = 15 := by (first | lia | omega)
  refine rendD rfl FF NN (fun q hq => hnI q.1 (List.mem_map_of_mem (f := Prod.fst) hq)) (by (first | lia | omega)) fun h' F2 N2 => ?_
  clear FF NN
  have gX := good 15 (by decide)
  clear good
  dsimp only
  refine .execs_cons (.TryExcept ?_)
  refine .execs_cons (.Expr (.CallName ?_))
  k_steps
  k_dflt (refine' .callWith_K (K := Mine.hd.heap_39 w.params) ?k1 ?_; (case k1 => k_is); k_whole)
  obtain ⟨hread, hoct, hlen2⟩ := reads_all (ds := refDs k 15) (N := 300) gX (refDs_ok k0 k1 (by decide)).1 (refDs_ok k0 k1 (by decide)).2.2
  have hnone := size_refused hread
  generalize encRun (enc0, bin0) (refDs k 15) = Y at *
  refine .args_cons (.CallName ?_)
  k_steps
  k_dflt (refine' .callWith_K (K := Mine.hd.heap_39 w.params) ?k1 ?_; (case k1 => k_is); k_whole)
  refine .args_cons (.MethodCall ?_)
  k_steps
  k_dflt (refine' .callWith_K0 (K := Mine.hd.heap_39 w.params) ?k1 ?k2 ?_; (case k1 => k_in); (case k2 => k_is))
  rename Fr g' L' _ _ => FF
  rename News g' L' _ _ => NN
  have NP := News.perm NN (news' := encL c1 Y.1 t1 t2 t3) (fun p hp => List.mem_append_left (binL d1 vs ws n1 n2) hp)
  have hC := finish_ctr (prog := prog) (w := w) (mean := mean) (mg := mg) (mb := mb) (c := c1) (x := Y.1) (t1 := t1) (t2 := t2) (t3 := t3) o1.1 gX.ok gX.big (by have := gX.len; (first | lia | omega))
  refine .never ?_
  k_dflt (refine' CtrC.use hC ?k1 ?k2 ?k3 ?k4 ?k5 ?k6 ?k7 ?k8 ?_; (case k1 => k_asm); (case k2 => exact FF); (case k3 => k_asm); (case k4 => exact NP); (case k5 => k_asm); (case k6 => exact rfl); (case k7 => exact bnd2 1 40 hd rfl); (case k8 => exact bnd2 3 500 hu rfl))
  clear hC NP NN FF
  rintro _ _ h3 tk3 ⟨tb1, w1, w2, w3, rfl, rfl⟩ F3 N3 K3
  clear N3 K3
  refine .args_nil ?_
  refine ⟨X'.keeps F3.keep, ?_⟩
  refine .never ?_
  have hC := fun t => dec_new (octs := Y.1.last) (t := t) (prog := prog) (w := w) (mean := mean) (mg := mg) (mb := mb) hoct (by (first | lia | omega))
  rename Fr g' L' _ _ => FF
  k_dflt (refine' NewC.use (hC _) ?k1 ?k2 ?k3 ?k5 ?k6 ?k7 ?k8 ?_; (case k1 => k_asm); (case k2 => exact FF); (case k3 => k_asm); (case k5 => k_asm); (case k6 => exact rfl); (case k7 => exact bnd2 1 20 hd rfl); (case k8 => exact bnd2 3 200 hu rfl))
  clear hC FF
  rintro _ _ h4 tk4 ⟨c2, y1, y2, y3, y4, rfl, c2o, c2z, rfl⟩ F4 M1 J1
  refine .args_cons (.CallName ?_)
  k_steps
  k_dflt (refine' .callWith_KL (K := Mine.hd.heap_39 w.params) ?k1 ?_; (case k1 => k_is); k_whole)
  k_steps
  refine .never ?_
  have hC := fun t => bin_new (t := t) (prog := prog) (w := w) (mean := mean) (mg := mg) (mb := mb)
  rename Fr g' L' _ _ => FF
  k_dflt (refine' NewC.use (hC _) ?k1 ?k2 ?k3 ?k5 ?k6 ?k7 ?k8 ?_; (case k1 => k_asm); (case k2 => exact FF); (case k3 => k_asm); (case k5 => k_asm); (case k6 => exact rfl); (case k7 => exact bnd2 1 20 hd rfl); (case k8 => exact bnd2 3 200 hu rfl))
  clear hC FF
  rintro _ _ h5 tk5 ⟨d2, vs2, ws2, m1, m2, rfl, d2o, d2z, hv2, hw2, rfl⟩ F5 M2 J2
  have o2 : dapart c2 d2 := ⟨c2o, by rw [d2z]; exact newsLt M1 (.head _), d2o⟩
  have N5 : News g' L' h5 (dbothL c2 (dec0 Y.1.last) y1 y2 y3 y4 d2 vs2 ws2 m1 m2) := newsJoin M1 M2 J2
  clear M1 M2 J1 J2 c2z d2z
  refine .of ?_
  k_steps
  rename Fr g' L' _ _ => FF
  rename News g' L' _ _ => NN
  have NP := News.perm NN (news' := dbothL c2 (dec0 Y.1.last) y1 y2 y3 y4 d2 vs2 ws2 m1 m2) (fun p hp => hp)
  have hC := fun t u => gsize_raise (prog := prog) (w := w) (mean := mean) (mg := mg) (mb := mb) (c := c2) (y := dec0 Y.1.last) (t1 := y1) (t2 := y2) (t3 := y3) (t4 := y4) (d := d2) (b := bin0) (vs := vs2) (ws := ws2) (n1 := m1) (n2 := m2) (k := k) (t := t) (u := u) (octs := Y.1.last) o2 (dec0_good hoct (by (first | lia | omega)) bin0_ok) hv2 hw2 k0 (by (first | lia | omega)) hnone
  k_dflt (refine' RaiseC.use (hC _ _) ?k1 ?k2 ?k3 ?k4 ?k5 ?k6 ?k7 ?k8 ?_; (case k1 => exact B'); (case k2 => exact FF); (case k3 => k_asm); (case k4 => exact NP); (case k5 => k_asm); (case k6 => exact rfl); (case k7 => exact bnd2 1 60 hd rfl); (case k8 => exact bnd2 3 1000 hu rfl))
  clear hC NP NN FF
  intro G e h6 tk6 FG hR hU
  refine kts_lookSN hR FG B' hU D' fun h7 hR1 hU1 => ?_
  refine hit_SN0 hR1 FG B' hU1 X T D' KtsTurn.refl (by kts_test) (fun h8 g8 T8 F8 N8 B8 X8 P8 D8 => ?_)
  k_steps
  rename Fr h₀ L _ _ => kF
  exact hret _ _ kF
end
section
section
variable {prog : Program} {w : World} {A : Around} {E : Value → Shared → Prop} {s : Shared} {h₀ : Heap} {L : Addr} {news : List (Addr × Obj)}
theorem codeC.forLoopT {env : Env} {R : Result → Shared → Prop} {target it body} (I : Nat → Shared → Prop)
    (turn : ∀ n s, I n s → let P9 : Flow → Shared → Prop := fun f s₃ => match f with
          | .next | .cont => ∃ m, m < n ∧ I m s₃
          | .brk => R (.ok .next) s₃
          | .ret v => R (.ok (.ret v)) s₃; wpAny (model prog w) A (pyNext it) (fun r s₁ => match r with
      | none => R (.ok .next) s₁
      | some v => wpAny (model prog w) A (letOwnedTupleGo target it v) (fun _ s₁' => wpAny (model prog w) A (assign target env v) (fun _ s₂ => wpC (model prog w) A (execs body env) P9 (fun _ _ => False) s₂) (fun _ _ => False) s₁') (fun _ _ => False) s₁) (fun _ _ => False) s)
    (n : Nat) (h : I n s) : codeC (model prog w) A (.forLoop target it body [] env) R s := by
  induction n using Nat.strongRecOn generalizing s with
  | ind n ih =>
    refine .tree ?_
    show wpC _ A ((forTurn target it body [] env).onRaise (fun x => do noteFrame x env; theTreesLotGoes x)) _ _ s
    refine .onRaise ?_
    simp only [forTurn]
    refine .standAt (.bindL (wpAny_onRaise (wpAny_mono (turn n s h) (fun r s₁ h₁ => ?_) fun _ _ x => x.elim)))
    cases r with
    | none => exact .pure ⟨rfl, rfl, .tree (show wpC _ A (do return Fin.done (← (execs [] env).onRaise (fun x => do noteFrame x env; theTreesLotGoes x))) _ _ s₁ from .bind (.onRaise (.execs_nil (.pure h₁))))⟩
    | some v =>
      refine .bindL (wpAny_mono h₁ (fun _ s₁' h₁' => ?_) fun _ _ x => x)
      refine .bindL (wpAny_mono h₁' (fun _ s₂ h₂ => .bind (h₂.mono (fun f s₃ h₃ => ?_) fun _ _ x => x)) fun _ _ x => x)
      cases f with
      | next => obtain ⟨k, hk, hI⟩ := h₃; exact .pure ⟨rfl, rfl, ih k hk hI⟩
      | cont => obtain ⟨k, hk, hI⟩ := h₃; exact .pure ⟨rfl, rfl, ih k hk hI⟩
      | brk => exact .pure h₃
      | ret v => exact .pure h₃
theorem goD {elts : List PySem.Expr} {k : Nat} {pos : Pos} {p I T : Addr} {o : Obj} {i : Nat} {Q : Unit → Shared → Prop} (N : News h₀ L s.heap news) (hI : LI p i o) (hm : (I, o) ∈ news) (hQ : Q () s) :
    wpAny (model prog w) A (letOwnedTupleGo (.Tuple elts k pos) (.ref I) (.ref T)) Q E s :=
  wpAny_letOwnedTupleGo_listiter (l := p) (i := i) ⟨o, (N _ hm).1, hI.1, hI.2⟩ hQ
end
theorem reg_LawTop_0 : True := by
  (k_with "compareOp NotEq ref ref" => ((k_here; (first | (with_reducible show wpAny _ _ (compareOp CmpOp.NotEq (Value.ref (BinAt.s _)) (Value.ref (BinAt.s _))) _ _ _) | (with_reducible show wpAny _ _ (compareOp CmpOp.NotEq (Value.ref (BinAt.t _)) (Value.ref (BinAt.t _))) _ _ _)); refine Stop.out ?_)))
  exact trivial
theorem reg_LawTop_1 : True := by
  (k_with "call ref" => ((k_here; ((first | (with_reducible show wpAny _ _ (call (Value.ref 375) _ _) _ _ _) | (with_reducible show wpAny _ _ (call (Value.ref 368) _ _) _ _ _)); refine Stop.out ?_))))
  exact trivial
inductive Inv_LawTop_0 (s₁ : Shared) (sp : Addr) (s' : Shared) : Prop
  | mk : ∀ l a b ta tb h tk, (s' = { s₁ with heap := h, toks := tk }) → (Fr s₁.heap s₁.heap.objs.size h (fun zz => if zz = Str.ofString "source" then some (.ref l) else List.lookup zz [(Str.ofString "script", .ref sp)])) → (News s₁.heap s₁.heap.objs.size h (srcL l a b ta tb)) → Inv_LawTop_0 s₁ sp s'
inductive Inv_LawTop_1 (s₁ : Shared) (l : Addr) (sp : Addr) (s' : Shared) : Prop
  | mk : ∀ (np p1 p2 : Addr) (r1 a1 r2 a2 : Int) (u1 u2 u3 u4 : Tok) (h : Heap) (tk : Nat), (s' = { s₁ with heap := h, toks := tk }) → (0 ≤ r1) → (r1 < 32768) → (0 ≤ a1) → (a1 < 20) → (0 ≤ r2) → (r2 < 32768) → (0 ≤ a2) → (a2 < 20) → (Fr s₁.heap s₁.heap.objs.size h (fun zz => if zz = Str.ofString "numbers" then some (.ref np) else if zz = Str.ofString "source" then some (.ref l) else List.lookup zz [(Str.ofString "script", .ref sp)])) → (News s₁.heap s₁.heap.objs.size h [(np, listOf #[.ref p1, .ref p2] 0), (p2, tupV [.int r2 u3, .int a2 u4]), (p1, tupV [.int r1 u1, .int a1 u2])]) → Inv_LawTop_1 s₁ l sp s'
inductive Inv_LawTop_2 (s₁ : Shared) (np : Addr) (d2 : BinAt) (c2 : EncAt) (d1 : BinAt) (c1 : EncAt) (l : Addr) (sp : Addr) (I : Addr) (p1 : Addr) (p2 : Addr) (r2 : Int) (u3 : Tok) (a2 : Int) (u4 : Tok) (r1 : Int) (u1 : Tok) (a1 : Int) (u2 : Tok) (n : Nat) (s : Shared) : Prop
  | mk : ∀ (i : Nat) (oI : Obj) (t1 t2 t3 : Tok) (vs ws : List Value) (n1 n2 : Nat) (t1' t2' t3' : Tok) (vs' ws' : List Value) (n1' n2' : Nat) (va vb vc vd : Option Value) (h : Heap) (tk : Nat), (n + i = 2) → (s = { s₁ with heap := h, toks := tk }) → (LI np i oI) → (Fr s₁.heap s₁.heap.objs.size h (fun zz => if zz = Str.ofString "bit" then vd else if zz = Str.ofString "place" then vc else if zz = Str.ofString "at" then vb else if zz = Str.ofString "rest" then va else if zz = Str.ofString "mine" then some (.ref d2.e) else if zz = Str.ofString "other" then some (.ref c2.e) else if zz = Str.ofString "bins" then some (.ref d1.e) else if zz = Str.ofString "encoder" then some (.ref c1.e) else if zz = Str.ofString "numbers" then some (.ref np) else if zz = Str.ofString "source" then some (.ref l) else List.lookup zz [(Str.ofString "script", .ref sp)])) → (News s₁.heap s₁.heap.objs.size h ((I, oI) :: (np, listOf #[.ref p1, .ref p2] 0) :: (p2, tupV [.int r2 u3, .int a2 u4]) :: (p1, tupV [.int r1 u1, .int a1 u2]) :: (bothL c1 (encRun (enc0, bin0) (numDs r1 a1 r2 a2 i)).1 t1 t2 t3 d1 vs ws n1 n2 ++ bothL c2 (encRun (enc0, bin0) (numDs r1 a1 r2 a2 i)).1 t1' t2' t3' d2 vs' ws' n1' n2'))) → (IntsAre vs (encRun (enc0, bin0) (numDs r1 a1 r2 a2 i)).2.ss) → (IntsAre ws (encRun (enc0, bin0) (numDs r1 a1 r2 a2 i)).2.es) → (IntsAre vs' (encRun (enc0, bin0) (numDs r1 a1 r2 a2 i)).2.ss) → (IntsAre ws' (encRun (enc0, bin0) (numDs r1 a1 r2 a2 i)).2.es) → Inv_LawTop_2 s₁ np d2 c2 d1 c1 l sp I p1 p2 r2 u3 a2 u4 r1 u1 a1 u2 n s
inductive Inv_LawTop_3 (ts : List T5) (s₁ : Shared) (lst : Addr) (a : Int) (ua : Tok) (r : Int) (ur : Tok) (d2 : BinAt) (c2 : EncAt) (d1 : BinAt) (c1 : EncAt) (np : Addr) (l : Addr) (sp : Addr) (J : Addr) (X : Enc × Bin) (R : List (Addr × Obj)) (n : Nat) (s : Shared) : Prop
  | mk : ∀ (j : Nat) (oJ : Obj) (t1' t2' t3' : Tok) (vs' ws' : List Value) (n1' n2' : Nat) (vc vd : Option Value) (h : Heap) (tk : Nat), (n + j = ts.length) → (s = { s₁ with heap := h, toks := tk }) → (LI lst j oJ) → (Fr s₁.heap s₁.heap.objs.size h (fun zz => if zz = Str.ofString "bit" then vd else if zz = Str.ofString "place" then vc else if zz = Str.ofString "at" then some (.int a ua) else if zz = Str.ofString "rest" then some (.int r ur) else if zz = Str.ofString "mine" then some (.ref d2.e) else if zz = Str.ofString "other" then some (.ref c2.e) else if zz = Str.ofString "bins" then some (.ref d1.e) else if zz = Str.ofString "encoder" then some (.ref c1.e) else if zz = Str.ofString "numbers" then some (.ref np) else if zz = Str.ofString "source" then some (.ref l) else List.lookup zz [(Str.ofString "script", .ref sp)])) → (News s₁.heap s₁.heap.objs.size h ((J, oJ) :: (bothL c2 (encRun X ((tsD ts).take j)).1 t1' t2' t3' d2 vs' ws' n1' n2' ++ R))) → (IntsAre vs' (encRun X ((tsD ts).take j)).2.ss) → (IntsAre ws' (encRun X ((tsD ts).take j)).2.es) → Inv_LawTop_3 ts s₁ lst a ua r ur d2 c2 d1 c1 np l sp J X R n s
inductive Inv_LawTop_4 (s₁ : Shared) (np : Addr) (d3 : BinAt) (c3 : DecAt) (X : Enc × Bin) (tb1 : Tok) (vd : Option Value) (vc : Option Value) (d2 : BinAt) (c2 : EncAt) (d1 : BinAt) (c1 : EncAt) (l : Addr) (sp : Addr) (I2 : Addr) (p1 : Addr) (p2 : Addr) (r2 : Int) (u3 : Tok) (a2 : Int) (u4 : Tok) (r1 : Int) (u1 : Tok) (a1 : Int) (u2 : Tok) (n : Nat) (s : Shared) : Prop
  | mk : ∀ (i : Nat) (oI : Obj) (t1 t2 t3 t4 : Tok) (vs ws : List Value) (n1 n2 : Nat) (va vb : Option Value) (h : Heap) (tk : Nat), (n + i = 2) → (s = { s₁ with heap := h, toks := tk }) → (LI np i oI) → (Fr s₁.heap s₁.heap.objs.size h (fun zz => if zz = Str.ofString "at" then vb else if zz = Str.ofString "rest" then va else if zz = Str.ofString "read" then some (.ref d3.e) else if zz = Str.ofString "decoder" then some (.ref c3.e) else if zz = Str.ofString "octets" then some (.bytes (byteArr X.1.last) tb1) else if zz = Str.ofString "bit" then vd else if zz = Str.ofString "place" then vc else if zz = Str.ofString "mine" then some (.ref d2.e) else if zz = Str.ofString "other" then some (.ref c2.e) else if zz = Str.ofString "bins" then some (.ref d1.e) else if zz = Str.ofString "encoder" then some (.ref c1.e) else if zz = Str.ofString "numbers" then some (.ref np) else if zz = Str.ofString "source" then some (.ref l) else List.lookup zz [(Str.ofString "script", .ref sp)])) → (News s₁.heap s₁.heap.objs.size h ((I2, oI) :: (np, listOf #[.ref p1, .ref p2] 0) :: (p2, tupV [.int r2 u3, .int a2 u4]) :: (p1, tupV [.int r1 u1, .int a1 u2]) :: dbothL c3 (decRun (dec0 X.1.last) bin0 (numDs r1 a1 r2 a2 i)).1 t1 t2 t3 t4 d3 vs ws n1 n2)) → (IntsAre vs (decRun (dec0 X.1.last) bin0 (numDs r1 a1 r2 a2 i)).2.ss) → (IntsAre ws (decRun (dec0 X.1.last) bin0 (numDs r1 a1 r2 a2 i)).2.es) → Inv_LawTop_4 s₁ np d3 c3 X tb1 vd vc d2 c2 d1 c1 l sp I2 p1 p2 r2 u3 a2 u4 r1 u1 a1 u2 n s
set_option maxHeartbeats 40000000 in
theorem final : PySem.Challenge.rw_xm0820_01.Holds := Mine.hd (by
  intro w s₀ s₁ mg mb G Y fa o pm cd doc dV kV ho hd hcd hD hmg hg args vals as hpre hlay hrd hwl hlo
  have KX := kIn_of Y
  refine Ground.open G ?_
  intro T B D TE TW
  clear B D TE TW
  wrow_args hpre hlay hrd hwl hlo
  clear G Y
  have K0 := below_caller (Top.heap T)
  rename List Int => ns
  rename IntsAre _ ns => hI
  rename Heap.IsList _ _ _ => hL
  rename ¬ _ < _ => hlen
  refine .call ?_
  rename Addr => sp
  have he := Dflts.none hD rfl
  subst he
  refine codeC.call_def (binds := [(Str.ofString "script", .ref sp)]) (by decide) ho hd T.nolimit hcd rfl (BindsTo.of_eq rfl) (of_decide_eq_true (by kernel_rfl)) (locs rfl) (fun h₁ hns hk₁ => ?_)
  clear ho hd hD hmg hcd
  have F : Fr s₁.heap s₁.heap.objs.size h₁ _ := ⟨hns, hk₁, Nat.le_refl _⟩
  have N : News s₁.heap s₁.heap.objs.size h₁ [] := News.nil
  clear hns hk₁
  refine (show wpC _ (Around.deeper callerA (envOf (Str.ofString "law") _ s₁.heap.objs.size fa cd)) (execs _ (envOf (Str.ofString "law") _ s₁.heap.objs.size fa cd)) _ _ _ from ?_)
  dsimp only [docDef]
  refine .execs_cons (.If (.Compare (.CallName ?_)))
  k_steps
  k_dflt (refine' .callWith_K (K := Mine.hd.heap_39 w.params) ?k1 ?_; (case k1 => k_is); k_whole)
  refine .args_cons (.CallName ?_)
  k_steps
  k_dflt (refine' .callWith_K0 (K := Mine.hd.heap_39 w.params) ?k1 ?k2 ?_; (case k1 => k_in); (case k2 => k_is))
  have hC := enc_new (prog := PySem.Challenge.rw_xm0820_01.row.prog) (w := w) (mg := mg) (mb := mb) (mean := ExcName.means s₀.heap)
  rename Fr s₁.heap s₁.heap.objs.size _ _ => FF
  k_dflt (refine' NewC.use hC ?k1 ?k2 ?k3 ?k5 ?k6 ?k7 ?k8 ?_; (case k1 => exact K0); (case k2 => exact FF); (case k3 => exact KX); (case k5 => exact T); (case k6 => exact rfl); (case k7 => exact Nat.lt_of_le_of_lt (Nat.le_refl _) (by decide)); (case k8 => exact Nat.lt_of_le_of_lt (Nat.le_refl _) (by decide)))
  clear hC
  rintro _ _ h2 tk2 ⟨c, t1, t2, t3, rfl, oc, ocz, rfl⟩ F2 N2 K2
  clear FF
  refine .args_cons (.CallName ?_)
  k_steps
  k_dflt (refine' .callWith_KL (K := Mine.hd.heap_39 w.params) ?k1 ?_; (case k1 => k_is); k_whole)
  k_steps
  have hC := fun t => bin_new (t := t) (prog := PySem.Challenge.rw_xm0820_01.row.prog) (w := w) (mg := mg) (mb := mb) (mean := ExcName.means s₀.heap)
  rename Fr s₁.heap s₁.heap.objs.size _ _ => FF
  k_dflt (refine' NewC.use (hC _) ?k1 ?k2 ?k3 ?k5 ?k6 ?k7 ?k8 ?_; (case k1 => exact K0); (case k2 => exact FF); (case k3 => exact KX); (case k5 => exact T); (case k6 => exact rfl); (case k7 => exact Nat.lt_of_le_of_lt (Nat.le_refl _) (by decide)); (case k8 => exact Nat.lt_of_le_of_lt (Nat.le_refl _) (by decide)))
  clear hC
  rintro _ _ h3 tk3 ⟨d, vs, ws, n1, n2, rfl, od, odz, hv, hw, rfl⟩ F3 N3 K3
  clear FF
  have od2 : apart c d := ⟨oc, by rw [odz]; exact newsLt N2 (.tail _ (.tail _ (.head _))), od⟩
  have N4 := newsJoin N2 N3 K3
  clear N2 N3
  refine .of ?_
  k_steps
  have hC := fun t u v => psize_ctr (prog := PySem.Challenge.rw_xm0820_01.row.prog) (w := w) (mg := mg) (mb := mb) (mean := ExcName.means s₀.heap) (c := c) (x := enc0) (t1 := t1) (t2 := t2) (t3 := t3) (d := d) (b := bin0) (vs := vs) (ws := ws) (n1 := n1) (n2 := n2) (n := 0) (k := 2) (rest := 2) (t := t) (u := u) (v := v) od2 good0 (by decide) hv hw (by decide) (by decide) (by decide) (by decide)
  rename Fr s₁.heap s₁.heap.objs.size _ _ => FF
  k_dflt (refine' CtrC.use (hC _ _ _) ?k1 ?k2 ?k3 ?k4 ?k5 ?k6 ?k7 ?k8 ?_; (case k1 => exact K0); (case k2 => exact FF); (case k3 => exact KX); (case k4 => exact N4); (case k5 => exact T); (case k6 => exact rfl); (case k7 => exact Nat.lt_of_le_of_lt (Nat.le_refl _) (by decide)); (case k8 => exact Nat.lt_of_le_of_lt (Nat.le_refl _) (by decide)))
  clear hC
  rw [size22]
  rintro _ _ h4 tk4 ⟨p, ta, tb, t1, t2, t3, vs', ws', n1, n2, rfl, hv', hw', rfl⟩ F5 N5 K5
  clear FF N4
  refine .of ?_
  k_steps
  refine .execs_nil ?_
  dsimp only
  rename Fr s₁.heap s₁.heap.objs.size _ _ => FF
  rename News s₁.heap s₁.heap.objs.size _ _ => NN
  rename Heap => h5
  have N0 : News s₁.heap s₁.heap.objs.size h5 [] := News.nil
  clear NN hv' hw' hv hw K5 K3 od2 odz od ocz oc K2
  refine .consP (Inv_LawTop_0 s₁ sp) ?_ ?_
  · k_steps
    all_goals (rename Fr s₁.heap s₁.heap.objs.size _ _ => F7; rename News s₁.heap s₁.heap.objs.size _ _ => N7)
    all_goals exact Stop.mk ⟨(by first | trivial | rfl), _, _, _, _, _, _, _, rfl, F7, N7⟩
  clear FF N0
  rintro _ ⟨l, a0, b0, ta, tb, h6, tk6, rfl, F6, N6⟩
  refine .consP (Inv_LawTop_1 s₁ l sp) ?_ ?_
  · k_steps
    refine Stop.mk ?_
    have hC := fun t => num_ctr (prog := PySem.Challenge.rw_xm0820_01.row.prog) (w := w) (mg := mg) (mb := mb) (mean := ExcName.means s₀.heap) (l := l) (a₀ := a0) (b₀ := b0) (ta := ta) (tb := tb) (most := 15) (t := t) (by decide) (by decide)
    rename Fr s₁.heap s₁.heap.objs.size _ _ => FF
    k_dflt (refine' Ctr.use (hC _) ?k1 ?k2 ?k3 ?k4 ?k5 ?k6 ?k7 ?k8 ?_; (case k1 => exact K0); (case k2 => exact FF); (case k3 => exact KX); (case k4 => exact N6); (case k5 => exact T); (case k6 => exact rfl); (case k7 => exact Nat.lt_of_le_of_lt (Nat.le_refl _) (by decide)); (case k8 => exact Nat.lt_of_le_of_lt (Nat.le_refl _) (by decide)))
    clear hC
    rintro _ _ h7 tk7 ⟨p1, r1, a1, u1, u2, a3, b3, ta3, tb3, rfl, q1, q2, q3, q4, rfl⟩ F7 N7 K7
    clear FF
    k_steps
    refine Stop.mk ?_
    have NP : News s₁.heap s₁.heap.objs.size h7 (srcL l a3 b3 ta3 tb3) := News.perm N7 (fun p hp => .tail _ hp)
    have hC := fun t => num_ctr (prog := PySem.Challenge.rw_xm0820_01.row.prog) (w := w) (mg := mg) (mb := mb) (mean := ExcName.means s₀.heap) (l := l) (a₀ := a3) (b₀ := b3) (ta := ta3) (tb := tb3) (most := 4) (t := t) (by decide) (by decide)
    rename Fr s₁.heap s₁.heap.objs.size _ _ => FF
    k_dflt (refine' Ctr.use (hC _) ?k1 ?k2 ?k3 ?k4 ?k5 ?k6 ?k7 ?k8 ?_; (case k1 => exact K0); (case k2 => exact FF); (case k3 => exact KX); (case k4 => exact NP); (case k5 => exact T); (case k6 => exact rfl); (case k7 => exact Nat.lt_of_le_of_lt (Nat.le_refl _) (by decide)); (case k8 => exact Nat.lt_of_le_of_lt (Nat.le_refl _) (by decide)))
    clear hC
    rintro _ _ h8 tk8 ⟨p2, r2, a2, u3, u4, a4, b4, ta4, tb4, rfl, q5, q6, q7, q8, rfl⟩ F8 N8 K8
    have hp1 : p1 ≠ l := newsNe N7 (.head _) (.tail _ (.head _)) (by intro e; exact absurd (Value.type.inj e) (by decide))
    have N9 : News s₁.heap s₁.heap.objs.size h8 [(p2, tupV [.int r2 u3, .int a2 u4]), (p1, tupV [.int r1 u1, .int a1 u2])] := news_after N7 N8 K8 (fun p hp => by
      simp only [List.mem_cons, List.not_mem_nil, or_false] at hp
      rcases hp with h | h
      · exact .inl (by rw [h]; exact .head _)
      · exact .inr ⟨by rw [h]; exact .head _, by rw [h]; simpa using hp1⟩)
    clear FF NP N8 N7
    k_steps
    rename Fr s₁.heap s₁.heap.objs.size _ _ => F9
    rename News s₁.heap s₁.heap.objs.size _ _ => N10
    exact Stop.mk ⟨(by first | trivial | rfl), _, p1, p2, r1, a1, r2, a2, u1, u2, u3, u4, _, _, rfl, q1, q2, q3, q4, q5, q6, q7, q8, F9, N10⟩
  clear F6 N6
  rintro _ ⟨np, p1, p2, r1, a1, r2, a2, u1, u2, u3, u4, h7, tk7, rfl, q1, q2, q3, q4, q5, q6, q7, q8, F7, N7⟩
  refine .execs_cons (.AssignTuple (.Tuple ?_))
  refine .args_cons (.CallName ?_)
  k_steps
  k_dflt (refine' .callWith_K0 (K := Mine.hd.heap_39 w.params) ?k1 ?k2 ?_; (case k1 => k_in); (case k2 => k_is))
  have hC := enc_new (prog := PySem.Challenge.rw_xm0820_01.row.prog) (w := w) (mg := mg) (mb := mb) (mean := ExcName.means s₀.heap)
  rename Fr s₁.heap s₁.heap.objs.size _ _ => FF
  k_dflt (refine' NewC.use hC ?k1 ?k2 ?k3 ?k5 ?k6 ?k7 ?k8 ?_; (case k1 => exact K0); (case k2 => exact FF); (case k3 => exact KX); (case k5 => exact T); (case k6 => exact rfl); (case k7 => exact Nat.lt_of_le_of_lt (Nat.le_refl _) (by decide)); (case k8 => exact Nat.lt_of_le_of_lt (Nat.le_refl _) (by decide)))
  clear hC
  rintro _ _ h8 tk8 ⟨c1, c1t1, c1t2, c1t3, rfl, c1o, c1z, rfl⟩ F2 M1 J1
  clear FF
  have N8 := newsJoin N7 M1 J1
  refine .args_cons (.CallName ?_)
  k_steps
  k_dflt (refine' .callWith_KL (K := Mine.hd.heap_39 w.params) ?k1 ?_; (case k1 => k_is); k_whole)
  k_steps
  have hC := fun t => bin_new (t := t) (prog := PySem.Challenge.rw_xm0820_01.row.prog) (w := w) (mg := mg) (mb := mb) (mean := ExcName.means s₀.heap)
  rename Fr s₁.heap s₁.heap.objs.size _ _ => FF
  k_dflt (refine' NewC.use (hC _) ?k1 ?k2 ?k3 ?k5 ?k6 ?k7 ?k8 ?_; (case k1 => exact K0); (case k2 => exact FF); (case k3 => exact KX); (case k5 => exact T); (case k6 => exact rfl); (case k7 => exact Nat.lt_of_le_of_lt (Nat.le_refl _) (by decide)); (case k8 => exact Nat.lt_of_le_of_lt (Nat.le_refl _) (by decide)))
  clear hC
  rintro _ _ h9 tk9 ⟨d1, d1v, d1w, d1n1, d1n2, rfl, d1o, d1z, d1hv, d1hw, rfl⟩ F3 M2 J2
  clear FF
  have N9 := newsJoin N8 M2 J2
  refine .args_cons (.CallName ?_)
  k_steps
  k_dflt (refine' .callWith_K0 (K := Mine.hd.heap_39 w.params) ?k1 ?k2 ?_; (case k1 => k_in); (case k2 => k_is))
  have hC := enc_new (prog := PySem.Challenge.rw_xm0820_01.row.prog) (w := w) (mg := mg) (mb := mb) (mean := ExcName.means s₀.heap)
  rename Fr s₁.heap s₁.heap.objs.size _ _ => FF
  k_dflt (refine' NewC.use hC ?k1 ?k2 ?k3 ?k5 ?k6 ?k7 ?k8 ?_; (case k1 => exact K0); (case k2 => exact FF); (case k3 => exact KX); (case k5 => exact T); (case k6 => exact rfl); (case k7 => exact Nat.lt_of_le_of_lt (Nat.le_refl _) (by decide)); (case k8 => exact Nat.lt_of_le_of_lt (Nat.le_refl _) (by decide)))
  clear hC
  rintro _ _ h10 tk10 ⟨c2, c2t1, c2t2, c2t3, rfl, c2o, c2z, rfl⟩ F2 M3 J3
  clear FF
  have N10 := newsJoin N9 M3 J3
  refine .args_cons (.CallName ?_)
  k_steps
  k_dflt (refine' .callWith_KL (K := Mine.hd.heap_39 w.params) ?k1 ?_; (case k1 => k_is); k_whole)
  k_steps
  have hC := fun t => bin_new (t := t) (prog := PySem.Challenge.rw_xm0820_01.row.prog) (w := w) (mg := mg) (mb := mb) (mean := ExcName.means s₀.heap)
  rename Fr s₁.heap s₁.heap.objs.size _ _ => FF
  k_dflt (refine' NewC.use (hC _) ?k1 ?k2 ?k3 ?k5 ?k6 ?k7 ?k8 ?_; (case k1 => exact K0); (case k2 => exact FF); (case k3 => exact KX); (case k5 => exact T); (case k6 => exact rfl); (case k7 => exact Nat.lt_of_le_of_lt (Nat.le_refl _) (by decide)); (case k8 => exact Nat.lt_of_le_of_lt (Nat.le_refl _) (by decide)))
  clear hC
  rintro _ _ h11 tk11 ⟨d2, d2v, d2w, d2n1, d2n2, rfl, d2o, d2z, d2hv, d2hw, rfl⟩ F3 M4 J4
  clear FF
  have N11 := newsJoin N10 M4 J4
  have N12 : News s₁.heap s₁.heap.objs.size h11 [(np, listOf #[.ref p1, .ref p2] 0), (p2, tupV [.int r2 u3, .int a2 u4]), (p1, tupV [.int r1 u1, .int a1 u2]), (c1.e, instObj 333 c1.d), (c1.d, encD c1 enc0 c1t1 c1t2 c1t3), (c1.f, BA.obj []), (d1.e, instObj 214 d1.d), (d1.d, binD d1), (d1.s, listOf d1v.toArray d1n1), (d1.t, listOf d1w.toArray d1n2), (c2.e, instObj 333 c2.d), (c2.d, encD c2 enc0 c2t1 c2t2 c2t3), (c2.f, BA.obj []), (d2.e, instObj 214 d2.d), (d2.d, binD d2), (d2.s, listOf d2v.toArray d2n1), (d2.t, listOf d2w.toArray d2n2)] := N11
  have o1 : apart c1 d1 := ⟨c1o, by rw [d1z]; exact newsLt M1 (.tail _ (.tail _ (.head _))), d1o⟩
  have o2 : apart c2 d2 := ⟨c2o, by rw [d2z]; exact newsLt M3 (.tail _ (.tail _ (.head _))), d2o⟩
  have o3 : @LT.lt Nat _ d1.t c2.d := by rw [c2z]; exact newsLt M2 (.tail _ (.tail _ (.tail _ (.head _))))
  have o4 : @LT.lt Nat _ np c1.d := by rw [c1z]; exact newsLt N7 (.head _)
  have o5 : @LT.lt Nat _ p2 c1.d := by rw [c1z]; exact newsLt N7 (.tail _ (.head _))
  have o6 : @LT.lt Nat _ p1 c1.d := by rw [c1z]; exact newsLt N7 (.tail _ (.tail _ (.head _)))
  clear N11 N10 N9 N8 N7 M1 M2 M3 M4 J1 J2 J3 J4 c1z c2z d1z d2z
  refine .args_nil ?_
  k_steps
  refine .execs_cons (.For ?_)
  k_steps
  rename Fr s₁.heap s₁.heap.objs.size _ _ => FF
  rename News s₁.heap s₁.heap.objs.size _ _ => NN
  refine iterD FF (News.perm NN (fun p hp => .tail _ hp)) (.head _) fun I oI h12 hI F12 N13 hne => ?_
  clear FF NN
  have hIA : ∀ a ∈ [np, p2, p1] ++ bothA c1 d1 ++ bothA c2 d2, a ≠ I := neAll hne
  clear hne
  have z1 := bothA_in o1
  have z2 := bothA_in o2
  have sep1 : ∀ a ∈ [I, np, p2, p1] ++ bothA c2 d2, ∀ b ∈ bothA c1 d1, a ≠ b := by
    intro a ha b hb
    rcases List.mem_append.mp ha with h | h
    · simp only [List.mem_cons, List.not_mem_nil, or_false] at h
      have zb := z1 b hb
      rcases h with h | h | h | h <;> subst h
      · exact Ne.symm (hIA b (List.mem_append_left _ (List.mem_append_right _ hb)))
      · exact neLt (Nat.lt_of_lt_of_le o4 zb.1)
      · exact neLt (Nat.lt_of_lt_of_le o5 zb.1)
      · exact neLt (Nat.lt_of_lt_of_le o6 zb.1)
    · exact Ne.symm (neLt (Nat.lt_of_le_of_lt (z1 b hb).2 (Nat.lt_of_lt_of_le o3 (z2 a h).1)))
  have o7 : @LT.lt Nat _ c1.d c2.d := Nat.lt_of_le_of_lt (z1 d1.t (by simp)).1 o3
  have sep2 : ∀ a ∈ [I, np, p2, p1] ++ bothA c1 d1, ∀ b ∈ bothA c2 d2, a ≠ b := by
    intro a ha b hb
    have zb := z2 b hb
    rcases List.mem_append.mp ha with h | h
    · simp only [List.mem_cons, List.not_mem_nil, or_false] at h
      rcases h with h | h | h | h <;> subst h
      · exact Ne.symm (hIA b (List.mem_append_right _ hb))
      · exact neLt (Nat.lt_of_lt_of_le o4 (Nat.le_trans (Nat.le_of_lt o7) zb.1))
      · exact neLt (Nat.lt_of_lt_of_le o5 (Nat.le_trans (Nat.le_of_lt o7) zb.1))
      · exact neLt (Nat.lt_of_lt_of_le o6 (Nat.le_trans (Nat.le_of_lt o7) zb.1))
    · exact neLt (Nat.lt_of_le_of_lt (z1 a h).2 (Nat.lt_of_lt_of_le o3 zb.1))
  clear z1 z2
  refine codeC.forLoopT (Inv_LawTop_2 s₁ np d2 c2 d1 c1 l sp I p1 p2 r2 u3 a2 u4 r1 u1 a1 u2) (fun n s hinv => ?_) 2
    ⟨0, oI, c1t1, c1t2, c1t3, d1v, d1w, d1n1, d1n2, c2t1, c2t2, c2t3, d2v, d2w, d2n1, d2n2, none, none, none, none, _, _, rfl, rfl, hI, (frNorm [Str.ofString "bit", Str.ofString "place", Str.ofString "at", Str.ofString "rest", Str.ofString "mine", Str.ofString "other", Str.ofString "bins", Str.ofString "encoder", Str.ofString "numbers", Str.ofString "source"] F12 (by (repeat refine off_l (by exact rfl) ?_); (repeat refine off_r (by exact rfl) ?_); exact off_refl) rfl), N13, d1hv, d1hw, d2hv, d2hw⟩
  clear F12 N13 hI d1hv d1hw d2hv d2hw
  obtain ⟨i, oI, t1, t2, t3, vs, ws, n1, n2, t1', t2', t3', vs', ws', n1', n2', va, vb, vc, vd, h, tk, hni, rfl, hI, FF, NN, hv, hw, hv', hw'⟩ := hinv
  intro P9
  have good := fun i => good_run good0 (numDs_ok q1 q2 q3 q4 q5 q6 q7 q8 i).1 (N := 2000) (by have := (numDs_ok q1 q2 q3 q4 q5 q6 q7 q8 i).2.1; (first | lia | omega))
  refine Or.elim (Nat.lt_or_ge i 2) (fun hi => ?_) (fun hi => ?_)
  · obtain ⟨p, r, a, ur, ua, hx, hp, hD, b1, b2, b3, b4⟩ := num_pick (p1 := p1) (p2 := p2) (u1 := u1) (u2 := u2) (u3 := u3) (u4 := u4) q1 q2 q3 q4 q5 q6 q7 q8 hi
    refine nextD FF NN hI (.head _) (fun q hq => hIA q.1 (List.mem_map_of_mem (f := Prod.fst) hq)) hx fun oI' h' hI2 F2 N2 => ?_
    clear FF NN hI
    refine goD N2 hI2 (.head _) ?_
    have N3 : News s₁.heap s₁.heap.objs.size h' ((p, tupV [.int r ur, .int a ua]) :: (I, oI') :: (np, listOf #[.ref p1, .ref p2] 0) :: (p2, tupV [.int r2 u3, .int a2 u4]) :: (p1, tupV [.int r1 u1, .int a1 u2]) ::
      (bothL c1 (encRun (enc0, bin0) (numDs r1 a1 r2 a2 i)).1 t1 t2 t3 d1 vs ws n1 n2 ++ bothL c2 (encRun (enc0, bin0) (numDs r1 a1 r2 a2 i)).1 t1' t2' t3' d2 vs' ws' n1' n2')) := News.perm N2 (fun q hq => by
        rcases List.mem_cons.mp hq with rfl | hq
        · rcases hp with hp | hp <;> rw [hp]
          · exact .tail _ (.tail _ (.tail _ (.head _)))
          · exact .tail _ (.tail _ (.head _))
        · exact hq)
    clear N2
    generalize hX : encRun (enc0, bin0) (numDs r1 a1 r2 a2 i) = X at *
    simp only [List.cons_append, List.nil_append] at N3
    k_steps
    have gX := good i
    rw [hX] at gX
    refine .execs_cons (.If (.Not (.Truth (.CallName ?_))))
    k_steps
    k_dflt (refine' .callWith_KL (K := Mine.hd.heap_39 w.params) ?k1 ?_; (case k1 => k_is); k_whole)
    k_steps
    rename Fr s₁.heap s₁.heap.objs.size _ _ => FF
    rename News s₁.heap s₁.heap.objs.size _ _ => NN
    have NP : News s₁.heap s₁.heap.objs.size _ (bothL c1 X.1 t1 t2 t3 d1 vs ws n1 n2) := News.perm NN (fun q hq => .tail _ (.tail _ (.tail _ (.tail _ (.tail _ (List.mem_append_left _ hq))))))
    have NR : News s₁.heap s₁.heap.objs.size _ ((I, oI') :: (np, listOf #[.ref p1, .ref p2] 0) :: (p2, tupV [.int r2 u3, .int a2 u4]) :: (p1, tupV [.int r1 u1, .int a1 u2]) :: bothL c2 X.1 t1' t2' t3' d2 vs' ws' n1' n2') := News.perm NN (fun q hq => .tail _ (memSkip [_, _, _, _] (bothL c1 X.1 t1 t2 t3 d1 vs ws n1 n2) hq))
    have hC := fun t u => isput_ctr (prog := PySem.Challenge.rw_xm0820_01.row.prog) (w := w) (mg := mg) (mb := mb) (mean := ExcName.means s₀.heap) (c := c1) (x := X.1) (t1 := t1) (t2 := t2) (t3 := t3) (d := d1) (b := X.2) (vs := vs) (ws := ws) (n1 := n1) (n2 := n2) (n := 2000) (k := a) (rest := r) (t := t) (u := u) o1 gX (by decide) hv hw b3 b4 b1 b2
    rename Fr s₁.heap s₁.heap.objs.size _ _ => FF
    k_dflt (refine' CtrC.use (hC _ _) ?k1 ?k2 ?k3 ?k4 ?k5 ?k6 ?k7 ?k8 ?_; (case k1 => exact K0); (case k2 => exact FF); (case k3 => exact KX); (case k4 => exact NP); (case k5 => exact T); (case k6 => exact rfl); (case k7 => exact Nat.lt_of_le_of_lt (Nat.le_refl _) (by decide)); (case k8 => exact Nat.lt_of_le_of_lt (Nat.le_refl _) (by decide)))
    clear hC
    rintro _ _ h2 tk2 ⟨w1, w2, w3, vs2, ws2, m1, m2, rfl, hv2, hw2, rfl⟩ F5 N5 K5
    rw [← lawDecs_eq b1 b2] at hv2 hw2 N5
    have hY : encRun X (lawDecs r a) = encRun (enc0, bin0) (numDs r1 a1 r2 a2 (i + 1)) := by rw [hD, encRun_append, hX]
    have N6 := bothJoin NR N5 K5 (sepOf sep1 rfl)
    clear NN FF NP NR N5 K5 hv hw
    k_steps
    refine .execs_nil ?_
    try dsimp only
    refine .execs_cons (.For ?_)
    k_steps
    refine Stop.mk ?_
    change IntsAre vs2 (encRun X (lawDecs r a)).2.ss at hv2
    change IntsAre ws2 (encRun X (lawDecs r a)).2.es at hw2
    have N7 : ∃ R0, R0 = (I, oI') :: (np, listOf #[.ref p1, .ref p2] 0) :: (p2, tupV [.int r2 u3, .int a2 u4]) :: (p1, tupV [.int r1 u1, .int a1 u2]) :: bothL c1 (encRun X (lawDecs r a)).1 w1 w2 w3 d1 vs2 ws2 m1 m2 ∧ News s₁.heap s₁.heap.objs.size h2 (bothL c2 X.1 t1' t2' t3' d2 vs' ws' n1' n2' ++ R0) :=
      ⟨_, rfl, News.perm N6 (fun q hq => memSwap [_, _, _, _] (bothL c1 (encRun X (lawDecs r a)).1 w1 w2 w3 d1 vs2 ws2 m1 m2) (bothL c2 X.1 t1' t2' t3' d2 vs' ws' n1' n2') hq)⟩
    obtain ⟨R0, hR0, N7⟩ := N7
    have sepR0 : ∀ q ∈ R0, ∀ b ∈ bothA c2 d2, q.1 ≠ b := sepOf sep2 (by rw [hR0]; rfl)
    clear N6
    have hC := fun t u => decs_ctr (prog := PySem.Challenge.rw_xm0820_01.row.prog) (w := w) (mg := mg) (mb := mb) (mean := ExcName.means s₀.heap) (rest := r) (k := a) (t := t) (u := u) b1 b2
    rename Fr s₁.heap s₁.heap.objs.size _ _ => FF
    k_dflt (refine' Ctr.use (hC _ _) ?k1 ?k2 ?k3 ?k4 ?k5 ?k6 ?k7 ?k8 ?_; (case k1 => exact K0); (case k2 => exact FF); (case k3 => exact KX); (case k4 => exact News.nil); (case k5 => exact T); (case k6 => exact rfl); (case k7 => exact Nat.lt_of_le_of_lt (Nat.le_refl _) (by decide)); (case k8 => exact Nat.lt_of_le_of_lt (Nat.le_refl _) (by decide)))
    clear hC
    rintro _ _ h7 tk7 ⟨lst, ts, nn, rfl, hts, rfl⟩ F7 N8 K7
    have N9 := newsJoin N7 N8 K7
    have sepD := decsSep N9 gX.bin hv' hw'
    refine iterD F7 N9 (List.mem_append_right _ (.head _)) fun J oJ h8 hJ F8 N10 hneJ => ?_
    have hnJ1 : ∀ b ∈ bothA c2 d2, b ≠ J := fun b hb => neAll hneJ b (by rw [List.append_assoc, List.map_append]; exact List.mem_append_left _ hb)
    obtain ⟨R, hR⟩ : ∃ R, R = R0 ++ decsL lst ts nn := ⟨_, rfl⟩
    have hnJ2 : ∀ q ∈ R, q.1 ≠ J := fun q hq => hneJ q (by rw [List.append_assoc, ← hR]; exact List.mem_append_right _ hq)
    have sepR : ∀ q ∈ R, ∀ b ∈ bothA c2 d2, q.1 ≠ b := fun q hq => by
      rw [hR] at hq
      exact (List.mem_append.mp hq).elim (sepR0 q) (sepD q)
    rw [List.append_assoc, ← hR] at N10
    have hlst : (lst, listOf (tsV ts).toArray nn) ∈ R := by rw [hR]; exact List.mem_append_right _ (.head _)
    have hdec := lawDecs_ok b1 b2 b3 b4
    rw [← hts] at hdec
    clear FF F7 N7 N8 N9 hneJ sepD sepR0 K7
    refine codeC.forLoopT (Inv_LawTop_3 ts s₁ lst a ua r ur d2 c2 d1 c1 np l sp J X R) (fun n' s hinv => ?_) ts.length
      ⟨0, oJ, t1', t2', t3', vs', ws', n1', n2', vc, vd, _, _, by (first | lia | omega), rfl, hJ, (frNorm [Str.ofString "bit", Str.ofString "place", Str.ofString "at", Str.ofString "rest", Str.ofString "mine", Str.ofString "other", Str.ofString "bins", Str.ofString "encoder", Str.ofString "numbers", Str.ofString "source"] F8 (by (repeat refine off_l (by exact rfl) ?_); (repeat refine off_r (by exact rfl) ?_); exact off_refl) rfl), N10, hv', hw'⟩
    clear F8 N10 hJ hv' hw'
    obtain ⟨j, oJ, t1', t2', t3', vs', ws', n1', n2', vc, vd, h, tk, hnj, rfl, hJ, FF, NN, hv', hw'⟩ := hinv
    intro P9
    by_cases hj : j < ts.length
    · obtain ⟨t, ht⟩ : ∃ t, ts[j]? = some t := ⟨ts[j], List.getElem?_eq_getElem hj⟩
      refine nextD FF NN hJ (List.mem_append_right _ hlst) (neBoth hnJ1 hnJ2) (tsV_get ht) fun oJ' h' hJ2 F2 N2 => ?_
      refine goD N2 hJ2 (.head _) ?_
      have htR : (t.1, tObj t) ∈ R := by rw [hR]; exact List.mem_append_right _ (.tail _ (tsL_mem ht))
      obtain ⟨T0, ⟨k, uk⟩, ⟨bt, ub⟩⟩ := t
      have hrun := run_take X (tsD_get ht)
      have hkb := hdec.1 (k, bt) (List.mem_of_getElem? (tsD_get ht))
      have gW := (good_run (N := 4000) gX (hdec.1.take j) (by have := hdec.2.1; rw [List.length_take]; (first | lia | omega)))
      dsimp only at hrun hkb htR ⊢
      generalize encRun X ((tsD ts).take j) = W at *
      have N3 : News s₁.heap s₁.heap.objs.size h' ((T0, tupV [.int k uk, .int bt ub]) :: (bothL c2 W.1 t1' t2' t3' d2 vs' ws' n1' n2' ++ (J, oJ') :: R)) := News.perm N2 (fun q hq => by
        rcases List.mem_cons.mp hq with rfl | hq
        · exact .tail _ (List.mem_append_right _ htR)
        · exact memMid2 (bothL c2 W.1 t1' t2' t3' d2 vs' ws' n1' n2') hq)
      simp only [List.cons_append, List.nil_append] at N3
      clear FF NN N2 hJ
      k_steps
      refine .execs_cons (.Expr (.MethodCall ?_))
      k_steps
      k_dflt (refine' .callWith_KL (K := Mine.hd.heap_39 w.params) ?k1 ?_; (case k1 => k_is); k_whole)
      k_steps
      rename Fr s₁.heap s₁.heap.objs.size _ _ => FF
      rename News s₁.heap s₁.heap.objs.size _ _ => NN
      have NP : News s₁.heap s₁.heap.objs.size _ (bothL c2 W.1 t1' t2' t3' d2 vs' ws' n1' n2') := News.perm NN (fun q hq => .tail _ (List.mem_append_left _ hq))
      have NR : News s₁.heap s₁.heap.objs.size _ ((J, oJ') :: R) := News.perm NN (fun q hq => .tail _ (List.mem_append_right (bothL c2 W.1 t1' t2' t3' d2 vs' ws' n1' n2') hq))
      have hC := fun bit t u => put_ctr (prog := PySem.Challenge.rw_xm0820_01.row.prog) (w := w) (mg := mg) (mb := mb) (mean := ExcName.means s₀.heap) (c := c2) (x := W.1) (t1 := t1') (t2 := t2') (t3 := t3') (d := d2) (b := W.2) (vs := vs') (ws := ws') (n1 := n1') (n2 := n2') (k := k) (bit := bit) (t := t) (u := u) o2 gW.ok gW.big (by have := gW.len; (first | lia | omega)) gW.bin hv' hw' hkb.1 hkb.2
      rename Fr s₁.heap s₁.heap.objs.size _ _ => FF
      k_dflt (refine' CtrC.use (hC _ _ _) ?k1 ?k2 ?k3 ?k4 ?k5 ?k6 ?k7 ?k8 ?_; (case k1 => exact K0); (case k2 => exact FF); (case k3 => exact KX); (case k4 => exact NP); (case k5 => exact T); (case k6 => exact rfl); (case k7 => exact Nat.lt_of_le_of_lt (Nat.le_refl _) (by decide)); (case k8 => exact Nat.lt_of_le_of_lt (Nat.le_refl _) (by decide)))
      clear hC
      rintro _ _ h3 tk3 ⟨rfl, w1', w2', w3', vs3, ws3, m1', m2', hv3, hw3, rfl⟩ F5 N5 K5
      have N6 := bothJoin NR N5 K5 (sepCons hnJ1 sepR)
      rw [← hrun] at N6 hv3 hw3
      try dsimp only
      exact .execs_nil ⟨n' - 1, by (first | lia | omega), j + 1, oJ', w1', w2', w3', vs3, ws3, m1', m2', _, _, _, _, by (first | lia | omega), rfl, hJ2, (frNorm [Str.ofString "bit", Str.ofString "place", Str.ofString "at", Str.ofString "rest", Str.ofString "mine", Str.ofString "other", Str.ofString "bins", Str.ofString "encoder", Str.ofString "numbers", Str.ofString "source"] F5 (by (repeat refine off_l (by exact rfl) ?_); (repeat refine off_r (by exact rfl) ?_); exact off_refl) rfl), News.perm N6 (fun q hq => memMid _ hq), hv3, hw3⟩
    · have hj2 : (tsD ts).take j = lawDecs r a := by rw [← hts]; exact List.take_of_length_le (by unfold tsD; rw [List.length_map]; (first | lia | omega))
      rw [hj2] at NN hv' hw'
      rw [hY] at NN hv' hw' hv2 hw2
      refine nextEndD rfl FF NN hJ (List.mem_append_right _ hlst) (neBoth hnJ1 hnJ2) (by simp; (first | lia | omega)) fun h' F2 N2 => ?_
      try dsimp only
      refine .execs_nil ?_
      try dsimp only
      refine ⟨n - 1, by (first | lia | omega), i + 1, oI', w1, w2, w3, vs2, ws2, m1, m2, t1', t2', t3', vs', ws', n1', n2', _, _, _, _, _, _, by (first | lia | omega), rfl, hI2, F2, ?_, hv2, hw2, hv', hw'⟩
      rw [hR, hR0, hY] at N2
      exact News.perm N2 (fun q hq => memEnd [_, _, _, _] _ _ _ hq)
  obtain rfl : i = 2 := by (first | lia | omega)
  obtain rfl : n = 0 := by (first | lia | omega)
  refine nextEndD rfl FF NN hI (.head _) (fun q hq => hIA q.1 (List.mem_map_of_mem (f := Prod.fst) hq)) rfl fun h' F2 N2 => ?_
  clear FF NN hI
  have gX := good 2
  clear good
  generalize hX : encRun (enc0, bin0) (numDs r1 a1 r2 a2 2) = X at *
  try dsimp only
  simp only [List.cons_append, List.nil_append] at N2
  refine .execs_cons (.AssignName (.MethodCall ?_))
  k_steps
  k_dflt (refine' .callWith_K0 (K := Mine.hd.heap_39 w.params) ?k1 ?k2 ?_; (case k1 => k_in); (case k2 => k_is))
  have NP : News s₁.heap s₁.heap.objs.size h' (encL c1 X.1 t1 t2 t3) := News.perm N2 (fun q hq => .tail _ (.tail _ (.tail _ (List.mem_append_left _ hq))))
  have NR : News s₁.heap s₁.heap.objs.size h' ([(np, listOf #[.ref p1, .ref p2] 0), (p2, tupV [.int r2 u3, .int a2 u4]), (p1, tupV [.int r1 u1, .int a1 u2])] ++ (binL d1 vs ws n1 n2 ++ bothL c2 X.1 t1' t2' t3' d2 vs' ws' n1' n2')) := News.perm N2 (fun q hq => memSkip [_, _, _] (encL c1 X.1 t1 t2 t3) hq)
  have sep3 : ∀ a ∈ [np, p2, p1] ++ ([d1.e, d1.d, d1.s, d1.t] ++ bothA c2 d2), ∀ b ∈ [c1.e, c1.d, c1.f], a ≠ b := by
    intro a ha b hb
    have hb1 : b ∈ bothA c1 d1 := List.mem_append_left [_, _, _, _] hb
    rcases List.mem_append.mp ha with h | h
    · exact sep1 a (List.mem_append_left _ (.tail _ h)) b hb1
    · rcases List.mem_append.mp h with h | h
      · obtain ⟨⟨z1, z2⟩, z3, z4, z5, z6⟩ := o1
        simp only [List.mem_cons, List.not_mem_nil, or_false] at h hb
        rcases h with h | h | h | h <;> rcases hb with g | g | g <;> subst h <;> subst g <;> exact Ne.symm (neLt (by (first | lia | omega)))
      · exact sep1 a (List.mem_append_right _ h) b hb1
  clear N2
  have hC := finish_ctr (prog := PySem.Challenge.rw_xm0820_01.row.prog) (w := w) (mg := mg) (mb := mb) (mean := ExcName.means s₀.heap) (c := c1) (x := X.1) (t1 := t1) (t2 := t2) (t3 := t3) o1.1 gX.ok gX.big (by have := gX.len; (first | lia | omega))
  rename Fr s₁.heap s₁.heap.objs.size _ _ => FF
  k_dflt (refine' CtrC.use hC ?k1 ?k2 ?k3 ?k4 ?k5 ?k6 ?k7 ?k8 ?_; (case k1 => exact K0); (case k2 => exact FF); (case k3 => exact KX); (case k4 => exact NP); (case k5 => exact T); (case k6 => exact rfl); (case k7 => exact Nat.lt_of_le_of_lt (Nat.le_refl _) (by decide)); (case k8 => exact Nat.lt_of_le_of_lt (Nat.le_refl _) (by decide)))
  clear hC
  rintro _ _ h3 tk3 ⟨tb1, w1, w2, w3, rfl, rfl⟩ F3 N3 K3
  have N4 := newsStay NR K3 (sepOf sep3 rfl)
  clear NP NR N3 K3 FF
  simp only [List.cons_append, List.nil_append] at N4
  k_steps
  refine .execs_cons (.If (.Or (.Compare (.of ?_))))
  k_steps
  refine .MethodCall ?_
  k_steps
  k_dflt (refine' .callWith_K0 (K := Mine.hd.heap_39 w.params) ?k1 ?k2 ?_; (case k1 => k_in); (case k2 => k_is))
  clear N4
  rename News s₁.heap s₁.heap.objs.size _ _ => NN
  have NP : News s₁.heap s₁.heap.objs.size _ (encL c2 X.1 t1' t2' t3') := News.perm NN (fun q hq => .tail _ (.tail _ (.tail _ (.tail _ (.tail _ (.tail _ (.tail _ (List.mem_append_left _ hq))))))))
  have NR : News s₁.heap s₁.heap.objs.size _ ([(np, listOf #[.ref p1, .ref p2] 0), (p2, tupV [.int r2 u3, .int a2 u4]), (p1, tupV [.int r1 u1, .int a1 u2]), (d1.e, instObj 214 d1.d), (d1.d, binD d1), (d1.s, listOf vs.toArray n1), (d1.t, listOf ws.toArray n2)] ++ binL d2 vs' ws' n1' n2') := News.perm NN (fun q hq => memSkip [_, _, _, _, _, _, _] (encL c2 X.1 t1' t2' t3') hq)
  have sep4 : ∀ a ∈ [np, p2, p1, d1.e, d1.d, d1.s, d1.t] ++ [d2.e, d2.d, d2.s, d2.t], ∀ b ∈ [c2.e, c2.d, c2.f], a ≠ b := by
    intro a ha b hb
    have hb1 : b ∈ bothA c2 d2 := List.mem_append_left [_, _, _, _] hb
    rcases List.mem_append.mp ha with h | h
    · rcases List.mem_append.mp (show a ∈ [np, p2, p1] ++ [d1.e, d1.d, d1.s, d1.t] from h) with h | h
      · exact sep2 a (List.mem_append_left _ (.tail _ h)) b hb1
      · exact sep2 a (List.mem_append_right _ (List.mem_append_right [_, _, _] h)) b hb1
    · obtain ⟨⟨z1, z2⟩, z3, z4, z5, z6⟩ := o2
      simp only [List.mem_cons, List.not_mem_nil, or_false] at h hb
      rcases h with h | h | h | h <;> rcases hb with g | g | g <;> subst h <;> subst g <;> exact Ne.symm (neLt (by (first | lia | omega)))
  have hC := finish_ctr (prog := PySem.Challenge.rw_xm0820_01.row.prog) (w := w) (mg := mg) (mb := mb) (mean := ExcName.means s₀.heap) (c := c2) (x := X.1) (t1 := t1') (t2 := t2') (t3 := t3') o2.1 gX.ok gX.big (by have := gX.len; (first | lia | omega))
  rename Fr s₁.heap s₁.heap.objs.size _ _ => FF
  k_dflt (refine' CtrC.use hC ?k1 ?k2 ?k3 ?k4 ?k5 ?k6 ?k7 ?k8 ?_; (case k1 => exact K0); (case k2 => exact FF); (case k3 => exact KX); (case k4 => exact NP); (case k5 => exact T); (case k6 => exact rfl); (case k7 => exact Nat.lt_of_le_of_lt (Nat.le_refl _) (by decide)); (case k8 => exact Nat.lt_of_le_of_lt (Nat.le_refl _) (by decide)))
  clear hC
  rintro _ _ h4 tk4 ⟨tb2, w1', w2', w3', rfl, rfl⟩ F4 N5 K5
  have N6 := newsStay NR K5 (sepOf sep4 rfl)
  clear NP NR N5 K5 FF NN
  simp only [List.cons_append, List.nil_append] at N6
  k_steps
  · rename_i hne
    exact absurd hne (by simp)
  refine .of ?_
  k_steps
  rename News s₁.heap s₁.heap.objs.size _ _ => NN
  refine Stop.mk (ke_ne_ints (newsList NN (.tail _ (.tail _ (.tail _ (.tail _ (.tail _ (.head _))))))) (newsList NN (.tail _ (.tail _ (.tail _ (.tail _ (.tail _ (.tail _ (.tail _ (.tail _ (.tail _ (.head _))))))))))) hv hv' (by ke_room) ?_)
  rw [show (!decide (X.2.ss = X.2.ss)) = false by simp]
  k_steps
  refine Stop.mk (ke_ne_ints (newsList NN (.tail _ (.tail _ (.tail _ (.tail _ (.tail _ (.tail _ (.head _)))))))) (newsList NN (.tail _ (.tail _ (.tail _ (.tail _ (.tail _ (.tail _ (.tail _ (.tail _ (.tail _ (.tail _ (.head _)))))))))))) hw hw' (by ke_room) ?_)
  rw [show (!decide (X.2.es = X.2.es)) = false by simp]
  k_steps
  refine .execs_nil ?_
  try dsimp only
  have hnum := numDs_ok q1 q2 q3 q4 q5 q6 q7 q8 2
  obtain ⟨hread, hoct, hlen2⟩ := reads_all (ds := numDs r1 a1 r2 a2 2) (N := 2000) (by rw [hX]; exact gX) hnum.1 hnum.2.2
  rw [hX] at hread hoct hlen2
  refine .execs_cons (.AssignTupleS (names := [Str.ofString "decoder", Str.ofString "read"]) (.Tuple ?_))
  refine .args_cons (.CallName ?_)
  k_steps
  k_dflt (refine' .callWith_KL (K := Mine.hd.heap_39 w.params) ?k1 ?_; (case k1 => k_is); k_whole)
  k_steps
  rename News s₁.heap s₁.heap.objs.size _ _ => NN
  have N6 : News s₁.heap s₁.heap.objs.size h4 [(np, listOf #[.ref p1, .ref p2] 0), (p2, tupV [.int r2 u3, .int a2 u4]), (p1, tupV [.int r1 u1, .int a1 u2])] := News.perm NN (fun q hq => by
    exact List.mem_append_left (as := [(np, listOf #[.ref p1, .ref p2] 0), (p2, tupV [.int r2 u3, .int a2 u4]), (p1, tupV [.int r1 u1, .int a1 u2])]) _ hq)
  have hC := fun t => dec_new (octs := X.1.last) (t := t) (prog := PySem.Challenge.rw_xm0820_01.row.prog) (w := w) (mg := mg) (mb := mb) (mean := ExcName.means s₀.heap) hoct (by (first | lia | omega))
  rename Fr s₁.heap s₁.heap.objs.size _ _ => FF
  k_dflt (refine' NewC.use (hC _) ?k1 ?k2 ?k3 ?k5 ?k6 ?k7 ?k8 ?_; (case k1 => exact K0); (case k2 => exact FF); (case k3 => exact KX); (case k5 => exact T); (case k6 => exact rfl); (case k7 => exact Nat.lt_of_le_of_lt (Nat.le_refl _) (by decide)); (case k8 => exact Nat.lt_of_le_of_lt (Nat.le_refl _) (by decide)))
  clear hC
  rintro _ _ h5 tk5 ⟨c3, c3t1, c3t2, c3t3, c3t4, rfl, c3o, c3z, rfl⟩ F5 M1 J1
  clear FF NN
  have N7 := newsJoin N6 M1 J1
  have o8 : @LT.lt Nat _ np c3.d := by rw [c3z]; exact newsLt N6 (.head _)
  have o9 : @LT.lt Nat _ p2 c3.d := by rw [c3z]; exact newsLt N6 (.tail _ (.head _))
  have o10 : @LT.lt Nat _ p1 c3.d := by rw [c3z]; exact newsLt N6 (.tail _ (.tail _ (.head _)))
  refine .args_cons (.CallName ?_)
  k_steps
  k_dflt (refine' .callWith_KL (K := Mine.hd.heap_39 w.params) ?k1 ?_; (case k1 => k_is); k_whole)
  k_steps
  have hC := fun t => bin_new (t := t) (prog := PySem.Challenge.rw_xm0820_01.row.prog) (w := w) (mg := mg) (mb := mb) (mean := ExcName.means s₀.heap)
  rename Fr s₁.heap s₁.heap.objs.size _ _ => FF
  k_dflt (refine' NewC.use (hC _) ?k1 ?k2 ?k3 ?k5 ?k6 ?k7 ?k8 ?_; (case k1 => exact K0); (case k2 => exact FF); (case k3 => exact KX); (case k5 => exact T); (case k6 => exact rfl); (case k7 => exact Nat.lt_of_le_of_lt (Nat.le_refl _) (by decide)); (case k8 => exact Nat.lt_of_le_of_lt (Nat.le_refl _) (by decide)))
  clear hC
  rintro _ _ h6 tk6 ⟨d3, d3v, d3w, d3n1, d3n2, rfl, d3o, d3z, d3hv, d3hw, rfl⟩ F6 M2 J2
  clear FF
  have o11 : dapart c3 d3 := ⟨c3o, by rw [d3z]; exact newsLt M1 (.head _), d3o⟩
  have N8 := newsJoin N7 M2 J2
  have N9 : News s₁.heap s₁.heap.objs.size h6 ((np, listOf #[.ref p1, .ref p2] 0) :: (p2, tupV [.int r2 u3, .int a2 u4]) :: (p1, tupV [.int r1 u1, .int a1 u2]) :: dbothL c3 (dec0 X.1.last) c3t1 c3t2 c3t3 c3t4 d3 d3v d3w d3n1 d3n2) := N8
  clear N8 N7 N6 M1 M2 J1 J2 c3z d3z hv hw hv' hw' sep1 sep2 sep3 sep4 hIA
  refine .args_nil ?_
  k_steps
  refine .execs_cons (.For ?_)
  k_steps
  rename Fr s₁.heap s₁.heap.objs.size _ _ => FF
  rename News s₁.heap s₁.heap.objs.size _ _ => NN
  have NQ : ∃ hh, hh = frHeap NN ∧ News s₁.heap s₁.heap.objs.size hh ((np, listOf #[.ref p1, .ref p2] 0) :: (p2, tupV [.int r2 u3, .int a2 u4]) :: (p1, tupV [.int r1 u1, .int a1 u2]) :: dbothL c3 (dec0 X.1.last) c3t1 c3t2 c3t3 c3t4 d3 d3v d3w d3n1 d3n2) := ⟨_, rfl, News.perm NN (fun q hq => by first | exact hq | exact .tail _ hq)⟩
  obtain ⟨_, rfl, NQ⟩ := NQ
  try dsimp only [frHeap] at NQ
  refine iterD FF NQ (.head _) fun I2 oI2 h13 hI2 F13 N13 hne => ?_
  clear FF NN NQ
  have hIA : ∀ a ∈ [np, p2, p1] ++ dbothA c3 d3, a ≠ I2 := neAll hne
  clear hne
  have sep1 : ∀ a ∈ [I2, np, p2, p1], ∀ b ∈ dbothA c3 d3, a ≠ b := by
    intro a ha b hb
    have zb := dbothA_in o11 b hb
    simp only [List.mem_cons, List.not_mem_nil, or_false] at ha
    rcases ha with h | h | h | h <;> subst h
    · exact Ne.symm (hIA b (List.mem_append_right _ hb))
    · exact neLt (Nat.lt_of_lt_of_le o8 zb.1)
    · exact neLt (Nat.lt_of_lt_of_le o9 zb.1)
    · exact neLt (Nat.lt_of_lt_of_le o10 zb.1)
  refine codeC.forLoopT (Inv_LawTop_4 s₁ np d3 c3 X tb1 vd vc d2 c2 d1 c1 l sp I2 p1 p2 r2 u3 a2 u4 r1 u1 a1 u2) (fun n s hinv => ?_) 2
    ⟨0, oI2, c3t1, c3t2, c3t3, c3t4, d3v, d3w, d3n1, d3n2, va, vb, _, _, rfl, rfl, hI2, (frNorm [Str.ofString "at", Str.ofString "rest", Str.ofString "read", Str.ofString "decoder", Str.ofString "octets", Str.ofString "bit", Str.ofString "place", Str.ofString "mine", Str.ofString "other", Str.ofString "bins", Str.ofString "encoder", Str.ofString "numbers", Str.ofString "source"] F13 (by (repeat refine off_l (by exact rfl) ?_); (repeat refine off_r (by exact rfl) ?_); exact off_refl) rfl), N13, d3hv, d3hw⟩
  clear F13 N13 hI2 d3hv d3hw
  obtain ⟨i, oI, t1, t2, t3, t4, vs, ws, n1, n2, va, vb, h, tk, hni, rfl, hI, FF, NN, hv, hw⟩ := hinv
  intro P9
  refine Or.elim (Nat.lt_or_ge i 2) (fun hi => ?_) (fun hi => ?_)
  · obtain ⟨p, r, a, ur, ua, hx, hp, hD, b1, b2, b3, b4⟩ := num_pick (p1 := p1) (p2 := p2) (u1 := u1) (u2 := u2) (u3 := u3) (u4 := u4) q1 q2 q3 q4 q5 q6 q7 q8 hi
    refine nextD FF NN hI (.head _) (fun q hq => hIA q.1 (List.mem_map_of_mem (f := Prod.fst) hq)) hx fun oI' h' hI2 F2 N2 => ?_
    clear FF NN hI
    refine goD N2 hI2 (.head _) ?_
    have N3 : News s₁.heap s₁.heap.objs.size h' ((p, tupV [.int r ur, .int a ua]) :: (I2, oI') :: (np, listOf #[.ref p1, .ref p2] 0) :: (p2, tupV [.int r2 u3, .int a2 u4]) :: (p1, tupV [.int r1 u1, .int a1 u2]) ::
      dbothL c3 (decRun (dec0 X.1.last) bin0 (numDs r1 a1 r2 a2 i)).1 t1 t2 t3 t4 d3 vs ws n1 n2) := News.perm N2 (fun q hq => by
        rcases List.mem_cons.mp hq with rfl | hq
        · rcases hp with hp | hp <;> rw [hp]
          · exact .tail _ (.tail _ (.tail _ (.head _)))
          · exact .tail _ (.tail _ (.head _))
        · exact hq)
    clear N2
    have hsaid := number_said b1 b2 (numDs_reads hi hD hread)
    have gY := dgood_run (numDs r1 a1 r2 a2 i) (dec0_good hoct (by (first | lia | omega)) bin0_ok) (numDs_ok q1 q2 q3 q4 q5 q6 q7 q8 i).1
    have hrun := decRun_append (numDs r1 a1 r2 a2 i) (lawDecs r a) (dec0 X.1.last) bin0
    rw [← hD] at hrun
    generalize hY : decRun (dec0 X.1.last) bin0 (numDs r1 a1 r2 a2 i) = Y at *
    k_steps
    refine .execs_cons (.If (.Not (.Truth (.CallName ?_))))
    k_steps
    k_dflt (refine' .callWith_KL (K := Mine.hd.heap_39 w.params) ?k1 ?_; (case k1 => k_is); k_whole)
    k_steps
    rename Fr s₁.heap s₁.heap.objs.size _ _ => FF
    rename News s₁.heap s₁.heap.objs.size _ _ => NN
    have NP : ∃ hh, hh = frHeap NN ∧ News s₁.heap s₁.heap.objs.size hh (dbothL c3 Y.1 t1 t2 t3 t4 d3 vs ws n1 n2) := ⟨_, rfl, News.perm NN (fun q hq => .tail _ (.tail _ (.tail _ (.tail _ (.tail _ hq)))))⟩
    obtain ⟨_, rfl, NP⟩ := NP
    have NR : ∃ hh, hh = frHeap NN ∧ News s₁.heap s₁.heap.objs.size hh [(I2, oI'), (np, listOf #[.ref p1, .ref p2] 0), (p2, tupV [.int r2 u3, .int a2 u4]), (p1, tupV [.int r1 u1, .int a1 u2])] := ⟨_, rfl, News.perm NN (fun q hq => .tail _ (List.mem_append_left (dbothL c3 Y.1 t1 t2 t3 t4 d3 vs ws n1 n2) hq))⟩
    obtain ⟨_, rfl, NR⟩ := NR
    try dsimp only [frHeap] at NP NR
    have hC := fun t u => isread_ctr (prog := PySem.Challenge.rw_xm0820_01.row.prog) (w := w) (mg := mg) (mb := mb) (mean := ExcName.means s₀.heap) (c := c3) (y := Y.1) (y1 := (decRun Y.1 Y.2 (sizeDecs r a)).1) (y2 := (decRun Y.1 Y.2 (lawDecs r a)).1) (t1 := t1) (t2 := t2) (t3 := t3) (t4 := t4) (d := d3) (b := Y.2) (b1 := (decRun Y.1 Y.2 (sizeDecs r a)).2) (b2 := (decRun Y.1 Y.2 (lawDecs r a)).2) (vs := vs) (ws := ws) (n1 := n1) (n2 := n2) (k := a) (rest := r) (t := t) (u := u) (octs := X.1.last) o11 gY hv hw b3 b4 b1 b2 hsaid.1 hsaid.2
    rename Fr s₁.heap s₁.heap.objs.size _ _ => FF
    k_dflt (refine' CtrC.use (hC _ _) ?k1 ?k2 ?k3 ?k4 ?k5 ?k6 ?k7 ?k8 ?_; (case k1 => exact K0); (case k2 => exact FF); (case k3 => exact KX); (case k4 => exact NP); (case k5 => exact T); (case k6 => exact rfl); (case k7 => exact Nat.lt_of_le_of_lt (Nat.le_refl _) (by decide)); (case k8 => exact Nat.lt_of_le_of_lt (Nat.le_refl _) (by decide)))
    clear hC
    rintro _ _ h2 tk2 ⟨w1, w2, w3, w4, vs2, ws2, m1, m2, rfl, hv2, hw2, rfl⟩ F5 N5 K5
    have N6 := dbothJoin NR N5 K5 (sepOf sep1 rfl)
    clear NN FF NP NR N5 K5 hv hw
    rw [← hrun] at hv2 hw2 N6
    k_steps
    refine .execs_nil ?_
    try dsimp only
    refine .execs_nil ?_
    try dsimp only
    exact ⟨n - 1, by (first | lia | omega), i + 1, oI', w1, w2, w3, w4, vs2, ws2, m1, m2, _, _, _, _, by (first | lia | omega), rfl, hI2, (frNorm [Str.ofString "at", Str.ofString "rest", Str.ofString "read", Str.ofString "decoder", Str.ofString "octets", Str.ofString "bit", Str.ofString "place", Str.ofString "mine", Str.ofString "other", Str.ofString "bins", Str.ofString "encoder", Str.ofString "numbers", Str.ofString "source"] F5 (by (repeat refine off_l (by exact rfl) ?_); (repeat refine off_r (by exact rfl) ?_); exact off_refl) rfl), News.perm N6 (fun q hq => (List.mem_append.mp (show q ∈ [_, _, _, _] ++ _ from hq)).elim (List.mem_append_right _) (List.mem_append_left _)), hv2, hw2⟩
  obtain rfl : i = 2 := by (first | lia | omega)
  obtain rfl : n = 0 := by (first | lia | omega)
  refine nextEndD rfl FF NN hI (.head _) (fun q hq => hIA q.1 (List.mem_map_of_mem (f := Prod.fst) hq)) rfl fun h' F2 N2 => ?_
  clear FF NN hI
  try dsimp only
  try dsimp only
  refine .execs_cons (.Return (.CallName ?_))
  k_steps
  k_dflt (refine' .callWith_KL (K := Mine.hd.heap_39 w.params) ?k1 ?_; (case k1 => k_is); k_whole)
  k_steps
  rename Fr s₁.heap s₁.heap.objs.size _ _ => FF
  k_dflt (refine' refused_ctr (mean := ExcName.means s₀.heap) q3 q4 _ _ _ _ _ _ _ _ _ _ _ _ _ ?k1 ?k2 ?k3 ?k5 ?k6 ?k7 ?k8 ?_; (case k1 => exact K0); (case k2 => exact FF); (case k3 => exact KX); (case k5 => exact T); (case k6 => exact rfl); (case k7 => exact Nat.lt_of_le_of_lt (Nat.le_refl _) (by decide)); (case k8 => exact Nat.lt_of_le_of_lt (Nat.le_refl _) (by decide)))
  intro h14 tk14 F3
  try dsimp only
  exact ⟨.inl ⟨.bool true, .bool true, [], rfl, fun _ => rfl, .bool true, postW_of (by wrow_shape) (by wtm_val) (by first | rfl | decide), fun _ => ⟨List.nodup_nil, fun a h => nomatch h⟩⟩, .of_keep F3.keep, rfl, .of_eq hg⟩
  done)
end
end Mine
theorem PySem.Challenge.cw_xm0820_01_holds : PySem.Challenge.rw_xm0820_01.Holds := by
  exact Mine.final
