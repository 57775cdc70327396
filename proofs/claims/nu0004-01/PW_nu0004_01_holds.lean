import PyProof.Rows.All
import Wide.All
import OpenK.AllK
import Wide.FinOn
import KE.KStateW
import PySem.Challenge.RW_nu0004_01
section
open PySem PySem.W PyProof.Rows
set_option Elab.async false
set_option linter.unusedVariables false
namespace Mine
/-- a goal gets a name of its own: what is taken apart ahead of it does not write it out again -/
theorem letG {p : Prop} (h : let q := p; q) : p := h
open Sem (wp)
/-- all but the hidden ones stay -/
def But (hid : List Addr) (h h' : Heap) : Prop := ∀ b o, h.get? b = some o → b ∉ hid → h'.get? b = some o
theorem But.of_hide {hid : List Addr} {h h' : Heap} (k : (hideAll h hid).StaysIn h') : But hid h h' := fun b o e n => k b o (hideAll_get _ e n)
theorem But.stays {h h' : Heap} (k : But [] h h') : h.StaysIn h' := fun b o e => k b o e (by simp)

/-- the builtins that may hold a bytearray's memory while they stand on the stack -/
noncomputable def holders : List String := ["bytearray.__contains__", "bytearray.__mod__", "bytearray.__rmod__", "_struct.pack_into.held", "bytearray.find.held"] ++ Builtin.Bytes.decodersThatHold
noncomputable def okCode : Code → Bool
  | .builtin id _ => !holders.contains id
  | _ => true
def CleanBelow (Γ : Ctx) : Prop := ∀ x ∈ Γ.below, okCode x.1 = true
def Clean (Γ : Ctx) : Prop := okCode Γ.code = true ∧ CleanBelow Γ

def wpS {α : Type} (M : Model) (A : Around) (t : Sem α) (Q : α → Shared → Prop) (E : Value → Shared → Prop) (s : Shared) : Prop :=
  ∀ Γ p, Γ.In A → Clean Γ → wp M Γ t (fun a _ s' => Q a s') (fun e _ s' => E e s') p s
def codeS (M : Model) (A : Around) (c : Code) (R : Result → Shared → Prop) (s : Shared) : Prop :=
  ∀ Γ p, Γ.code = c → Γ.Below A → CleanBelow Γ → wpCode M Γ R p s

section
variable {α β : Type} {M : Model} {A : Around} {E : Value → Shared → Prop} {s : Shared}
theorem wpS_of_any {t : Sem α} {Q : α → Shared → Prop} (h : wpAny M A t Q E s) : wpS M A t Q E s := fun Γ p hΓ _ => h Γ p hΓ
theorem wpS_mono {t : Sem α} {Q Q' : α → Shared → Prop} {E' : Value → Shared → Prop} (h : wpS M A t Q E s)
    (hQ : ∀ a s, Q a s → Q' a s) (hE : ∀ e s, E e s → E' e s) : wpS M A t Q' E' s :=
  fun Γ p hΓ hC => Sem.wp_mono M Γ t (fun a _ s => hQ a s) (fun e _ s => hE e s) p s (h Γ p hΓ hC)
theorem wpS_pure {a : α} {Q : α → Shared → Prop} (h : Q a s) : wpS M A (pure a) Q E s := fun _ _ _ _ => h
theorem wpS_bind {m : Sem α} {f : α → Sem β} {Q : β → Shared → Prop} (h : wpS M A m (fun a s' => wpS M A (f a) Q E s') E s) :
    wpS M A (m >>= f) Q E s := fun Γ p hΓ hC => by
  rw [Sem.wp_bind']
  exact Sem.wp_mono M Γ m (fun a p' s' h' => h' Γ p' hΓ hC) (fun _ _ _ h' => h') p s (h Γ p hΓ hC)
theorem wpS_onRaise {m : Sem α} {k : Value → Sem Unit} {Q : α → Shared → Prop}
    (h : wpS M A m Q (fun e s' => wpS M A (k e) (fun _ s'' => E e s'') E s') s) : wpS M A (m.onRaise k) Q E s := fun Γ p hΓ hC => by
  rw [Sem.wp_onRaise]
  exact Sem.wp_mono M Γ m (fun _ _ _ h' => h') (fun e p' s' h' => h' Γ p' hΓ hC) p s (h Γ p hΓ hC)
theorem wpS_attempt {m : Sem α} {Q : Except Value α → Shared → Prop} (h : wpS M A m (fun a => Q (.ok a)) (fun e => Q (.error e)) s) :
    wpS M A m.attempt Q E s := fun Γ p hΓ hC => by rw [Sem.wp_attempt]; exact h Γ p hΓ hC
theorem wpS_holding {vs : List Value} {m : Sem α} {Q : α → Shared → Prop} (h : wpS M A m Q E s) : wpS M A (holding vs m) Q E s :=
  fun Γ p hΓ hC => by rw [Sem.wp_holding]; exact h Γ p hΓ hC
theorem wpS_keep {vs : List Value} {m : Sem α} {Q : α → Shared → Prop} (h : wpS M A m Q E s) : wpS M A (m.keep vs) Q E s :=
  fun Γ p hΓ hC => by rw [Sem.wp_keep]; exact h Γ p hΓ hC
/-- a plain step first -/
theorem wpS_step {m : Sem α} {f : α → Sem β} {Q : β → Shared → Prop} (h : wpAny M A m (fun a s' => wpS M A (f a) Q E s') E s) :
    wpS M A (m >>= f) Q E s := wpS_bind (wpS_of_any h)
theorem wpS_if_true {c : Bool} {a b : Sem α} {Q : α → Shared → Prop} (hc : c = true) (h : wpS M A a Q E s) : wpS M A (if c = true then a else b) Q E s := by
  subst hc; exact h
theorem wpS_if_false {c : Bool} {a b : Sem α} {Q : α → Shared → Prop} (hc : c = false) (h : wpS M A b Q E s) : wpS M A (if c = true then a else b) Q E s := by
  subst hc; exact h

theorem codeS_mono {c : Code} {R R' : Result → Shared → Prop} (h : codeS M A c R s) (hR : ∀ r s, R r s → R' r s) : codeS M A c R' s :=
  fun Γ p hc hΓ hC => wpCode_mono hR (h Γ p hc hΓ hC)
theorem Clean.enter {Γ : Ctx} (h : Clean Γ) (c : Code) (hd : Option Value) (p : Pos) : CleanBelow (Γ.enter c hd p) := by
  intro x hx
  rcases List.mem_cons.mp hx with rfl | hx
  · exact h.1
  · exact h.2 x hx
theorem wpS_run {c : Code} {h : Option Value} {Q : Flow → Shared → Prop}
    (hc : codeS M (A.mark h) c (fun r s' => match r with | .ok f => Q f s' | .error e => E e s') s) (hnb : h ≠ some byPass := by intro x; cases x) :
    wpS M A (run c h) Q E s :=
  fun Γ p hΓ hC => by rw [Sem.wp_run]; exact hc _ p rfl (hΓ.enter c h p hnb) (hC.enter c h p)
theorem wpS_runValue {c : Code} {Q : Value → Shared → Prop}
    (hc : codeS M A c (fun r s' => match r with | .ok (.ret v) => Q v s' | .ok _ => False | .error e => E e s') s) :
    wpS M A (runValue c) Q E s := fun Γ p hΓ hC => by rw [Sem.wp_runValue]; exact hc _ p rfl (hΓ.enter c none p (by intro x; cases x)) (hC.enter c none p)
theorem wpS_call {f : Value} {pos : List Value} {kw : List (Str × Value)} {Q : Value → Shared → Prop}
    (hc : codeS M A (.call f ⟨pos, kw⟩) (fun r s' => match r with | .ok (.ret v) => Q v s' | .ok _ => False | .error e => E e s') s) :
    wpS M A (call f pos kw) Q E s := wpS_runValue hc

theorem codeS_of_tree {c : Code} {R : Result → Shared → Prop} (ok : okCode c = true)
    (h : wpS M (A.under c) (M.den c) (fun fin s' => match fin with | .done f => R (.ok f) s' | .again c' => c'.quiet = true ∧ codeS M A c' R s')
      (fun e s' => R (.error e) s') s) : codeS M A c R s := fun Γ p hc hΓ hC => by
  rw [wpCode_iff_wp, hc]
  refine Sem.wp_mono M Γ _ (fun fin p' s' h' => ?_) (fun _ _ _ h' => h') p s (h Γ p (hc ▸ hΓ.in) ⟨hc ▸ ok, hC⟩)
  cases fin with
  | done f => exact h'
  | again c' => exact ⟨h'.1, h'.2 (Γ.goto c') p' rfl (hΓ.goto c') hC⟩

theorem id_ne {id : String} {a : Args} (ok : okCode (.builtin id a) = true) {y : String} (hy : y ∈ holders) : ¬ id = y := by
  rintro rfl
  have h : (!holders.contains id) = true := ok
  rw [List.contains_iff_mem.mpr hy] at h
  cases h
theorem wpS_exported {self : Value} {Q : Bool → Shared → Prop} (h : Q false s) : wpS M A (Builtin.Bytes.exported self) Q E s := fun Γ p hΓ hC => by
  show Q (((Γ.code, p) :: Γ.below).any _) s
  rw [List.any_eq_false.mpr]
  · exact h
  · intro x hx
    have ok : okCode x.1 = true := by
      rcases List.mem_cons.mp hx with rfl | hx
      · exact hC.1
      · exact hC.2 x hx
    rw [Bool.not_eq_true]
    obtain ⟨c, q⟩ := x
    cases c with
    | builtin id a =>
      obtain ⟨pos, kw⟩ := a
      delta Builtin.Bytes.exported.match_1
      dsimp only [Builtin.Bytes.exported._sparseCasesOn_1]
      rw [dif_neg (id_ne ok (by simp [holders])), dif_neg (id_ne ok (by simp [holders])), dif_neg (id_ne ok (by simp [holders])), dif_neg (id_ne ok (by simp [holders])), dif_neg (id_ne ok (by simp [holders]))]
      cases pos with
      | nil => rfl
      | cons v l =>
        have : Builtin.Bytes.decodersThatHold.contains id = false := by
          have h : (!holders.contains id) = true := ok
          rw [Bool.not_eq_true'] at h
          unfold holders at h
          rw [List.contains_eq_any_beq, List.any_append, Bool.or_eq_false_iff] at h
          rw [List.contains_eq_any_beq]; exact h.2
        show (Builtin.Bytes.sameRef v self && Builtin.Bytes.decodersThatHold.contains id) = false
        rw [this, Bool.and_false]
    | _ => rfl
end

section
variable {prog : Program} {w : World} {A : Around} {E : Value → Shared → Prop} {s : Shared} {R : Result → Shared → Prop}
theorem codeS_builtin {id : String} {args : Args} {b : Builtin} (ok : okCode (.builtin id args) = true) (hb : entryFor table id = some b)
    (h : wpS (model prog w) (A.under (.builtin id args)) (b args)
      (fun fin s' => match fin with | .done f => R (.ok f) s' | .again c' => c'.quiet = true ∧ codeS (model prog w) A c' R s') (fun e s' => R (.error e) s') s) :
    codeS (model prog w) A (.builtin id args) R s := by
  refine codeS_of_tree ok ?_
  show wpS _ _ (match entryFor table id with | some b => b args | none => unsupported ((withoutEnding? id "#data").getD id)) _ _ s
  rw [hb]; exact h
theorem codeS_func {body : List Stmt} {env : Env}
    (h : wpS (model prog w) (A.deeper env) (execs body env) (fun f s' => R (.ok (.ret (match f with | .ret v => v | _ => .none))) s')
      (fun e s' => wpS (model prog w) (A.deeper env) (leaving env e) (fun _ s'' => R (.error e) s'') (fun e' s'' => R (.error e') s'') s') s) :
    codeS (model prog w) A (.func body env) R s := by
  refine codeS_of_tree rfl ?_
  show wpS _ (A.deeper env) (do point; match ← (execs body env).onRaise (leaving env) with | .ret v => ret v | _ => ret .none) _ _ s
  refine wpS_step (wpAny_point (wpS_bind (wpS_onRaise (wpS_mono h (fun f s' h' => ?_) fun _ _ h' => h'))))
  cases f <;> exact wpS_pure h'
theorem codeS_call_function {a : Addr} {args : Args} {o : Obj} {fd : FuncData} {body : List Stmt} (hroom : A.depth < recursionLimit)
    (ho : s.heap.get? a = some o)
    (hd' : o.data = .func fd) (hco : fd.scope.isCoroutine = false) (hgen : fd.scope.isGenerator = false) (hbody : fd.body = .stmts body) (hcd : s.heap.CodeRec fd.code fd.qualname)
    (h : wpAny (model prog w) A.in1 (bindArgs fd args) (fun binds s₁ =>
      wpAny (model prog w) A.in1 (newFunctionEnv fd.scope fd.globals fd.closure binds (fd.qualname ++ ".<locals>.") (some a) fd.code none fd.builtins)
        (fun env s₂ => s₂.heap.NoLimit ∧ codeS (model prog w) A (.func body env) R s₂) (fun e s' => R (.error e) s') s₁) (fun e s' => R (.error e) s') s) :
    codeS (model prog w) A (.call (.ref a) args) R s := by
  refine codeS_of_tree rfl (wpS_of_any ?_)
  show wpAny _ A.in1 (callAny (.ref a) args) _ _ s
  simp only [callAny]
  refine wpAny_bind (wpAny_load ho ?_)
  obtain ⟨c, oc, vs, tq, hc, hoc, hdc, hq⟩ := hcd
  simp only [hd', callFunction, hco, hgen, hbody, hc]
  rw [hc] at h
  refine wpAny_bind (m := field (.ref c) 1) (wpAny_field hoc hdc hq (wpAny_bind (wpAny_pure ?_)))
  exact wpAny_bind (wpAny_mono h (fun binds s₁ h₁ => wpAny_bind (wpAny_mono h₁ (fun env s₂ h₂ => wpAny_bind (wpAny_enterFrame h₂.1 hroom
    (wpAny_pure (And.intro rfl h₂.2)))) fun _ _ h' => h')) fun _ _ h' => h')
theorem codeS_call_def {a : Addr} {o : Obj} {fd : FuncData} {body : List Stmt} {args : Args} {binds : List (Str × Value)}
    (hroom : A.depth < recursionLimit) (ho : s.heap.get? a = some o) (hdata : o.data = .func fd) (hlim : s.heap.NoLimit) (hcd : s.heap.CodeRec fd.code fd.qualname)
    (hbody : fd.body = .stmts body) (hbind : BindsTo s fd args binds)
    (hcell : ∀ x ∈ fd.scope.names, x.2 ≠ .cell) (hloc : ∀ x ∈ binds, fd.scope.names.lookup x.1 = some .local)
    (h : ∀ h₀, h₀.Ns s.heap.objs.size (fun x => binds.reverse.lookup x) → (∀ b o, s.heap.get? b = some o → h₀.get? b = some o) →
      wpS (model prog w) (A.deeper (callEnv fd s.heap.objs.size a)) (execs body (callEnv fd s.heap.objs.size a)) (fun f s' => R (.ok (.ret (match f with | .ret v => v | _ => .none))) s')
        (fun e s' => wpS (model prog w) (A.deeper (callEnv fd s.heap.objs.size a)) (leaving (callEnv fd s.heap.objs.size a) e) (fun _ s'' => R (.error e) s'') (fun e' s'' => R (.error e') s'') s')
        { s with heap := h₀, toks := s.toks + binds.length })
    (hco : fd.scope.isCoroutine = false) (hgen : fd.scope.isGenerator = false) (hk : fd.scope.kind = .function) :
    codeS (model prog w) A (.call (.ref a) args) R s := by
  refine codeS_call_function hroom ho hdata hco hgen hbody hcd (hbind _ _ _ _ ?_)
  refine wpAny_newFunctionEnv hcell hloc (fun h₀ hns₀ hsb₀ => ⟨hlim.fresh _ hsb₀, codeS_func (h h₀ hns₀ fun b o e => ?_)⟩) hk
  exact hsb₀.extBut b o (Nat.ne_of_lt (Heap.lt_size e)) (Heap.get?_push_of_some _ e)
end

end Mine
end
section
open PySem PySem.W PySem.Calls PyProof.Rows
set_option Elab.async false
set_option linter.unusedVariables false
namespace Mine
theorem clean_caller : Clean (⟨.builtin "claim.caller" {}, none, none, [], none⟩ : Ctx) := ⟨by decide, fun x hx => nomatch hx⟩
theorem thread_endsS {prog : Program} {w : World} {t : Sem Fin} {s : Shared} {R : Result → Shared → Prop} (hreg : s.asleep)
    (h : wpS (model prog w) callerA t (fun fin s' => ∃ f, fin = .done f ∧ (R (.ok f) s' ∧ leftWithCleanup s'.gens = false)) (fun e s' => R (.error e) s' ∧ leftWithCleanup s'.gens = false) s) :
    ∃ n r s' s'', runN (denote table) prog w n s ⟨t, .builtin "claim.caller" {}, default, []⟩ = .halted (outcomeOf r) s' ∧
      schedN (denote table) prog w n (.single s ⟨t, .builtin "claim.caller" {}, default, []⟩) = .halted (outcomeOf r) s' ∧ s'.forget = s''.forget ∧ R r s'' := by
  obtain ⟨n, r, s₁, s₂, hs, hn, hfo, hR⟩ := wp_halts_full (M := model prog w) (c := .builtin "claim.caller" {}) (t := t) (p := default) (R := R) hreg
    (Sem.wp_mono _ _ t (fun fin p' s' h' => by obtain ⟨f, rfl, hf⟩ := h'; exact hf) (fun _ _ _ h' => h') default s (h _ default caller_in clean_caller))
  exact ⟨n, r, s₂, s₁, hn, hs, hfo, hR⟩
theorem callFrom_of_specS {c : ClaimW} {tree : List Value → Sem Fin} {w : World} {s : Shared} {free : Addr → Prop} {gens : Prop} {kept : Heap → Prop} (hz : s.asleep) (hgens : s.gens = #[])
    (hspec : ∀ args, c.pre args = true → WData.layableAll args = true →
      ∀ ord : List DictEntry → List DictEntry, (∀ l, (ord l).Perm l) →
      ∃ vs s₁, layAllW c.records (classAt s.heap) w.params ord args s = some (vs, s₁) ∧
        wpS (model c.prog w) callerA (tree vs) (fun fin s' => ∃ f, fin = .done f ∧ (c.Ends s args vs s₁ (.ok f) s' ∧ s'.os = s.os ∧ AllBare s'.gens ∧ kept s'.heap))
          (fun e s' => c.Ends s args vs s₁ (.error e) s' ∧ s'.os = s.os ∧ AllBare s'.gens ∧ kept s'.heap) s₁) :
    c.CallFrom (fun vs => ⟨tree vs, .builtin "claim.caller" {}, default, []⟩) w free gens kept s := by
  intro args hpre hlay ord hord
  refine letG ?_; intro goal
  obtain ⟨vs, s₁, hlaid, hcode⟩ := hspec args hpre hlay ord hord
  have hal := layAllW_rest _ _ _ hlaid
  obtain ⟨k, r, s', s'', hrun, hsched, hfo, hcase, hos, hkp⟩ := thread_endsS (prog := c.prog) (w := w) (t := tree vs) (s := s₁)
    (R := fun r s' => c.Ends s args vs s₁ r s' ∧ s'.os = s.os ∧ kept s'.heap)
    (Shared.asleep_of_life hal.2.2.2 hz)
    (wpS_mono hcode (by
      rintro fin s' ⟨f, e, h1, h2, h3, h4⟩
      exact ⟨f, e, ⟨h1, h2, h4⟩, leftWithCleanup_false_of_bare h3⟩) (by
      rintro e s' ⟨h1, h2, h3, h4⟩
      exact ⟨⟨h1, h2, h4⟩, leftWithCleanup_false_of_bare h3⟩))
  obtain ⟨eh, _, _, eo, _⟩ := Shared.forget_eq hfo
  have hcase := hcase.congr eh
  have hkp : kept s'.heap := by rw [eh]; exact hkp
  rw [← eo] at hos
  have hlife : s'.heap.life = s.heap.life := (runN_life _ _ _ hrun).trans hal.2.2.2
  refine ⟨vs, s₁, hlaid, k, _, s', hsched, ?_, (fun _ i x hx => by rw [hgens] at hx; simp at hx), hkp, by rw [hlife], Shared.rest_eq hos⟩
  refine letG ?_; intro goal2
  rcases hcase with ⟨v, rfl, d1, d2, d3, d4, d5⟩ | ⟨e, ob, cls, rfl, d1, d2, d3, d4, d5⟩
  · exact .inl ⟨v, rfl, d1, d2, d3, fun b o y _ => d4 b o y, d5⟩
  · exact .inr ⟨e, ob, cls, rfl, d1, d2, d3, d4, fun b o y _ => d5 b o y⟩

abbrev WalkS (q : Program) (loose : List Str) (XP : (Str → Option Value) → Heap → Prop) (YP : World → Heap → Prop) (r : RowW) (d : DefRec) (kwd : List (Str × Expr)) (run : Value → List Value → Sem Value) : Prop :=
  ∀ (w : World) (s₀ s₁ : Shared) (mg mb : Str → Option Value), Ground q loose r.records XP w s₀ mg mb s₁.heap → YP w s₁.heap → ∀ (a : Addr) (o : Obj) (pm cd doc dV kV : Value), s₁.heap.get? a = some o →
    o.data = .func { docDef d.name d.params d.body d.scope pm cd doc with defaults := dV, kwdefaults := kV } → s₁.heap.CodeRec cd d.name → Dflts mg s₁.heap d.params kwd dV kV → mg d.name = some (.ref a) → s₁.gens = #[] →
    ∀ (args : List WData) (vals : List Value) (as : List Addr), r.claim.pre args = true → WData.layableAll args = true → ReadsAllW r.records (classAt s₀.heap) s₁.heap vals args as → WellAll w.params s₁.heap vals args → (∀ a ∈ as, (a == sysModules) = false) →
      wpS (model r.prog w) callerA (run (.ref a) vals) (fun v s' => GoodWG r.claim (classAt s₀.heap) (ExcName.means s₀.heap) args s₁ (.ok (.ret v)) s')
        (fun e s' => GoodWG r.claim (classAt s₀.heap) (ExcName.means s₀.heap) args s₁ (.error e) s') s₁

theorem holds_openS {r : OpenRow} {q : Program} {loose : List Str} {Xt : Shared → Bool} {XP : (Str → Option Value) → Heap → Prop} {α : Type} {Yf : Shared → α} {Ya : World → α} {YP : World → Heap → Prop} {d : DefRec} {kwd : List (Str × Expr)} {N : Nat}
    (left : LeftO r.prog q loose Xt Yf Ya N) (hY : ∀ w s, Yf s = Ya w → YP w s.heap) (hYk : ∀ w h h', YP w h → (∀ b o, h.get? b = some o → h'.get? b = some o) → YP w h')
    (hX : ∀ s, Xt s = true → XP (s.heap.nsMap mainGlobals) s.heap) (hXk : ∀ mg h h', XP mg h → (∀ b o, h.get? b = some o → h'.get? b = some o) → XP mg h')
    (hdef : defOf q r.name = some (d, kwd)) (hp : r.prog.theDef r.name = some (d.params, d.body, d.scope)) (hk : kwWritten? d.params.kwonlyargs d.params.kw_defaults = some kwd) (hRf : ∀ s, Xt s = true → RecFacts r.records s.heap) (hwr : (!r.writes || r.records.isEmpty) = true)
    (k1 : r.wellSaid = true) (ok : (chainsOk q && opensWell r.prog && (frees r.toRowW && r.within.isEmpty)) = true) (hb : r.prog.bare) (hw : r.toRowW.promised)
    (call : WalkS q loose XP YP r.toRowW d kwd fun f vs => PySem.call f vs) : r.Holds := by
  refine ⟨k1, hw, ?_⟩
  obtain ⟨ok, k5⟩ := Bool.and_eq_true_iff.mp ok
  obtain ⟨hch, o1⟩ := Bool.and_eq_true_iff.mp ok
  obtain ⟨k5, k6⟩ := Bool.and_eq_true_iff.mp k5
  obtain ⟨hsame, hu, ha, hap, hm⟩ := frees_parts k5
  refine ⟨⟨hb, o1, by show r.makers.map _ = []; rw [hm]; rfl⟩, hw.witness, fun w => ⟨(left.behind hX hch w).1, fun s' hs' => ?_⟩⟩
  refine letG ?_; intro goal
  obtain ⟨s₀, hf, hg0, s, hT, hz, hgens, hg, G00, y⟩ := (left.behind (XP := fun mg h => XP mg h ∧ RecFacts r.records h) (fun s hs => ⟨hX s hs, hRf s hs⟩) hch w).2 s' hs'
  have G0 : Ground q loose [] XP w s (s.heap.nsMap mainGlobals) (s.heap.nsMap builtinsNs) s.heap := ⟨G00.T, G00.B, G00.D, G00.TE, G00.TD, G00.W, G00.X.1, G00.cls, G00.has, G00.apart, G00.once, G00.K⟩
  have RF := G00.X.2
  have hT' := hT
  refine ⟨s₀, hf, hg0, s, hT, (fun n hn => ?_), RF.1, RF.2.1, ?_⟩
  · obtain rfl : n = r.name := by
      clear call hT hT' G0 RF hg y hz hgens G00 left hX hXk hY hYk hRf hdef hp hk
      split at hn <;> simp_all
    exact pinned_of_view hg G0 hdef hp hk
  have hgens : s.gens = #[] := Array.eq_empty_of_size_eq_zero (beq_iff_eq.mp hgens)
  have G : Ground q loose r.records XP w s _ _ s.heap := RF.ground G0
  refine callFrom_of_specS (c := r.toRowW.claim) (tree := fun vs => do match ← nsGet mainNs r.name with
      | some f => do ret (← PySem.call f vs)
      | none => unsupported "claim.caller:no-such-global") hz hgens fun args hpre hlay ord hord => ?_
  refine letG ?_; intro goal
  obtain ⟨⟨vs, s₁⟩, hlaid⟩ := Option.isSome_iff_exists.mp (layAllW_isSome (P := w.params) (ord := ord) G.has args r.args s (pre_splitW hpre).1)
  have keeps := layAllW_keeps _ _ _ hlaid
  have hal := layAllW_rest _ _ _ hlaid
  obtain ⟨as, hrd, hin, hold⟩ := reads_layAllW hord _ _ _ hlaid hlay s₁.heap (fun _ _ e => e)
  have L : Laid r.records w s s₁ args vs as := ⟨⟨ord, hord, hlaid⟩, hrd, hin, hold, keeps, hal.1.trans hgens, hal.2.2.1⟩
  have G₁ := G.keeps hXk keeps
  obtain ⟨a, o, pm, cd, doc, dV, kV, h1, h2, h3, h4, h5⟩ := G₁.fn hdef
  have h := call w s s₁ _ _ G₁ (hYk _ _ _ (hY w s y) keeps) a o pm cd doc dV kV h2 h3 h4 h5 (defOf_name hdef ▸ h1) L.gens args vs as hpre hlay L.reads L.well (L.low G.low)
  have hi := ident_freeW hu ha hap
  have hwi : r.claim.within = [] := List.isEmpty_iff.mp k6
  refine ⟨vs, s₁, hlaid, wpS_step (wpAny_nsGet G₁.T.g ?_)⟩
  rw [h1]
  refine wpS_bind (wpS_mono h (fun v s' g => ?_) fun e s' g => ?_)
  · have z := g.laid (c := r.toRowW.claim) hsame hwi hi L
    exact wpS_pure (a := Fin.done (.ret v)) ⟨.ret v, rfl, z.1, z.2.1, z.2.2, fun q => ⟨namesKept_of hT' hg _ keeps g.2.1.old, noTable hwr q⟩⟩
  · have z := g.laid (c := r.toRowW.claim) hsame hwi hi L
    exact ⟨z.1, z.2.1, z.2.2, fun q => ⟨namesKept_of hT' hg _ keeps g.2.1.old, noTable hwr q⟩⟩
end Mine
end
section
open PySem PySem.W PySem.Calls PyProof.Rows
set_option Elab.async false
namespace Mine.PySem.W
/-- the head, for contexts that are clean: it stands where the line looks for the library's -/
theorem holds_open {r : OpenRow} {q : Program} {loose : List Str} {Xt : Shared → Bool} {XP : (Str → Option Value) → Heap → Prop} {α : Type} {Yf : Shared → α} {Ya : World → α} {YP : World → Heap → Prop} {d : DefRec} {kwd : List (Str × Expr)} {N : Nat}
    (left : LeftO r.prog q loose Xt Yf Ya N) (hY : ∀ w s, Yf s = Ya w → YP w s.heap) (hYk : ∀ w h h', YP w h → (∀ b o, h.get? b = some o → h'.get? b = some o) → YP w h')
    (hX : ∀ s, Xt s = true → XP (s.heap.nsMap mainGlobals) s.heap) (hXk : ∀ mg h h', XP mg h → (∀ b o, h.get? b = some o → h'.get? b = some o) → XP mg h')
    (hdef : defOf q r.name = some (d, kwd)) (hp : r.prog.theDef r.name = some (d.params, d.body, d.scope)) (hk : kwWritten? d.params.kwonlyargs d.params.kw_defaults = some kwd) (hRf : ∀ s, Xt s = true → RecFacts r.records s.heap) (hwr : (!r.writes || r.records.isEmpty) = true)
    (k1 : r.wellSaid = true) (ok : (chainsOk q && opensWell r.prog && (frees r.toRowW && r.within.isEmpty)) = true) (hb : r.prog.bare) (hw : r.toRowW.promised)
    (call : WalkS q loose XP YP r.toRowW d kwd fun f vs => PySem.call f vs) : r.Holds :=
  holds_openS left hY hYk hX hXk hdef hp hk hRf hwr k1 ok hb hw call
end Mine.PySem.W
namespace Mine
set_option maxRecDepth 100000 in
set_option maxHeartbeats 8000000 in
open_top hd for PySem.Challenge.rw_nu0004_01
end Mine
end
section
set_option compiler.extract_closed false
local macro_rules | `(tactic| omega) => `(tactic| first | lia | omega (config := {}))
section
open PySem PySem.W PyProof.Rows
set_option Elab.async false
namespace Mine


/-- what a call site knows -/
structure Site (w : World) (A : Around) (G h : Heap) (d u : Nat) : Prop where
  hnd : A.handled = none
  dep : A.depth + d < recursionLimit
  unt : A.units + u < cLine
  kin : (hd.heap_39 w.params).In G
  top : ∃ mean mg mb, Top hd.view_39 (looseW hd.view_39 [Str.ofString "crc32", Str.ofString "adler32", Str.ofString "stored"]) mean mg mb G
  fr : ∃ fr, Below A G fr h ∧ ∀ env ∈ fr, ∀ L, env.frame = some L → ∃ o es n, h.get? L = some o ∧ o.data = .dict es n

theorem Site.gst {w : World} {A : Around} {G h : Heap} {d u : Nat} (S : Site w A G h d u) : G.StaysIn h := let ⟨_, B, _⟩ := S.fr; B.stays

/-- the heap changed, but for what is hidden; frames stay -/
theorem Site.hide {w : World} {A : Around} {G h : Heap} {d u : Nat} (S : Site w A G h d u) {hid : List (Addr × Obj)}
    (hh : ∀ p ∈ hid, h.get? p.1 = some p.2 ∧ G.get? p.1 = none ∧ ∀ es n, p.2.data ≠ .dict es n) : Site w A G (hideAll h (hid.map (·.1))) d u := by
  obtain ⟨fr, B, D⟩ := S.fr
  have nf : ∀ env ∈ fr, ∀ b ∈ hid.map (·.1), env.frame ≠ some b := fun env he b hb hf => by
    obtain ⟨p, hp, rfl⟩ := List.mem_map.mp hb
    obtain ⟨o, es, n, ho, hd⟩ := D env he _ hf
    rw [(hh p hp).1] at ho
    cases ho
    exact (hh p hp).2.2 es n hd
  refine ⟨S.hnd, S.dep, S.unt, S.kin, S.top, fr, ⟨B.stack, fun b o e => hideAll_get _ (B.stays b o e) fun hb => ?_, funFrames_hideAll B.frames nf⟩, fun env he L hL => ?_⟩
  · obtain ⟨p, hp, rfl⟩ := List.mem_map.mp hb
    rw [(hh p hp).2.1] at e; cases e
  · obtain ⟨o, es, n, ho, hd⟩ := D env he L hL
    exact ⟨o, es, n, hideAll_get _ ho fun hb => nf env he L hb hL, hd⟩

/-- the call's room within -/
theorem Site.next {w : World} {A : Around} {G g h : Heap} {d u : Nat} {env : Env} {L : Addr} {m : Str → Option Value} (S : Site w A G g (d + 1) (u + 3)) (F : Fr g L h m)
    (hf : env.frame = some L) (hk : env.scope.kind = .function) : Site w (A.deeper env) G h d u := by
  obtain ⟨fr, B, D⟩ := S.fr
  have B' := pushX B F hf hk
  refine ⟨S.hnd, ?_, ?_, S.kin, S.top, env :: fr, B', fun e he L' hL => ?_⟩
  · have := S.dep; show A.depth + 1 + d < recursionLimit; omega
  · have := S.unt; show A.units + 3 + u < cLine; omega
  · rcases List.mem_cons.mp he with rfl | he
    · rw [hf] at hL; cases hL
      obtain ⟨o, es, n, ho, hd, _⟩ := F.ns
      exact ⟨o, es, n, ho, hd⟩
    · obtain ⟨o, es, n, ho, hd⟩ := D e he L' hL
      exact ⟨o, es, n, F.keep _ _ ho, hd⟩

theorem Site.less {w : World} {A : Around} {G h : Heap} {d u d' u' : Nat} (S : Site w A G h d u) (hd : d' ≤ d) (hu : u' ≤ u) : Site w A G h d' u' :=
  ⟨S.hnd, (by have := S.dep; omega), (by have := S.unt; omega), S.kin, S.top, S.fr⟩
theorem Site.go {w : World} {A : Around} {G g h : Heap} {d u d' u' : Nat} {env : Env} {L : Addr} {m : Str → Option Value} (S : Site w A G g (d + 1) (u + 3)) (F : Fr g L h m) (hd : d' ≤ d) (hu : u' ≤ u)
    (hf : env.frame = some L := by rfl) (hk : env.scope.kind = .function := by rfl) : Site w (A.deeper env) G h d' u' := (S.next F hf hk).less hd hu
theorem Site.keeps {w : World} {A : Around} {G h h' : Heap} {d u : Nat} (S : Site w A G h d u) (k : h.StaysIn h') : Site w A G h' d u :=
  ⟨S.hnd, S.dep, S.unt, S.kin, S.top, let ⟨fr, B, D⟩ := S.fr; ⟨fr, ⟨B.stack, fun b o e => k b o (B.stays b o e), B.frames.of_keeps fun b o e _ => ⟨o, k b o e, rfl⟩⟩,
    fun env he L hL => let ⟨o, es, n, ho, hd⟩ := D env he L hL; ⟨o, es, n, k _ _ ho, hd⟩⟩⟩
section
variable {prog : Program} {w : World} {A : Around} {G : Heap} {s : Shared} {d u : Nat}
  {R : Result → Shared → Prop} {name qual : Str} {params : Arguments} {body : List Stmt} {scope : Scope} {dV kV doc pm cdv ct oc : Value} {an od : Option Addr} {osl : Array (Option Value)} {f : Addr} {args : Args} {binds : List (Str × Value)}

theorem enter (S : Site w A G s.heap d u) (hid : List (Addr × Obj))
    (hh : ∀ p ∈ hid, s.heap.get? p.1 = some p.2 ∧ G.get? p.1 = none ∧ ∀ es n, p.2.data ≠ .dict es n)
    (ho : (hd.heap_39 w.params).lookup f = some ⟨oc, od, .func (fnX name qual params body scope [] dV kV doc pm an cdv ct), osl⟩) (hcd : codeIn (hd.heap_39 w.params) cdv qual = true)
    (hbind : BindsTo s (fnX name qual params body scope [] dV kV doc pm an cdv ct) args binds) (hloc : ∀ y ∈ binds, scope.names.lookup y.1 = some .local)
    (h : ∀ g L' h₁ fr mean mg mb, (∀ h', g.StaysIn h' → But (hid.map (·.1)) s.heap h') → Fr g L' h₁ (fun y => binds.reverse.lookup y) → News g L' h₁ hid → Site w A G g d u → Below A G fr g → (hd.heap_39 w.params).In g → Top hd.view_39 (looseW hd.view_39 [Str.ofString "crc32", Str.ofString "adler32", Str.ofString "stored"]) mean mg mb g →
      (∀ p ∈ hid, p.1 < L') →
      wpAny (model prog w) (A.deeper (envX qual scope L' f cdv [])) (execs body (envX qual scope L' f cdv []))
        (fun fl s' => R (.ok (.ret (match fl with | .ret v => v | _ => .none))) s')
        (fun e s' => wpAny (model prog w) (A.deeper (envX qual scope L' f cdv [])) (leaving (envX qual scope L' f cdv []) e) (fun _ s'' => R (.error e) s'') (fun e' s'' => R (.error e') s'') s')
        { s with heap := h₁, toks := s.toks + binds.length })
    (hcell : ∀ x ∈ scope.names, x.2 ≠ .cell) (hco : scope.isCoroutine = false) (hgen : scope.isGenerator = false) (hk : scope.kind = .function) :
    codeAny (model prog w) A (.call (.ref f) args) R s := by
  have X : (hd.heap_39 w.params).In s.heap := S.kin.keeps S.gst
  obtain ⟨mean, mg, mb, T⟩ := S.top
  have Sg := S.hide hh
  obtain ⟨fr, B, D⟩ := Sg.fr
  refine codeAny_call_def (fd := fnX name qual params body scope [] dV kV doc pm an cdv ct) (body := body) (binds := binds) (by have := S.dep; omega) (X _ _ ho) rfl (T.nolimit.keeps S.gst) (codeRec_of X hcd) rfl hbind hcell hloc (fun h₁ hns hk₁ => ?_) hco hgen hk
  exact h _ s.heap.objs.size h₁ fr mean mg mb (fun h' k => But.of_hide k) ⟨hns, fun b o e => hk₁ b o (of_hideAll _ e), Nat.le_of_eq (hideAll_size _ _)⟩
    (fun p hp => ⟨hk₁ _ _ (hh p hp).1, Nat.ne_of_lt (Heap.lt_size (hh p hp).1), hideAll_none _ (List.mem_map_of_mem hp)⟩) Sg B (S.kin.keeps Sg.gst) (T.keeps Sg.gst) (fun p hp => Heap.lt_size (hh p hp).1)
end
/-- what is around a body gets a name of its own: the walk's terms stay smaller -/
theorem letA {α : Type} {M : Model} {A : Around} {x : Sem α} {Q : α → Shared → Prop} {E : Value → Shared → Prop} {s : Shared} (h : let A1 := A; wpAny M A1 x Q E s) : wpAny M A x Q E s := h
theorem letS {α : Type} {M : Model} {A : Around} {x : Sem α} {Q : α → Shared → Prop} {E : Value → Shared → Prop} {s : Shared} (h : let A1 := A; let Q1 := Q; let E1 := E; wpS M A1 x Q1 E1 s) : wpS M A x Q E s := h
theorem Fr.but {h₀ h h' : Heap} {L src : Addr} {m : Str → Option Value} (F : Fr h₀ L h m) (k : But [src] h h') (hL : src ≠ L) (h0 : h₀.get? src = none) : Fr h₀ L h' m := by
  refine ⟨?_, fun b o e => k b o (F.keep b o e) (fun hb => ?_), F.above⟩
  · exact F.ns.at fun o e => k L o e (fun hb => hL (List.mem_singleton.mp hb).symm)
  · rw [List.mem_singleton.mp hb, h0] at e; cases e
theorem News.but {h₀ h h' : Heap} {L src : Addr} {o o' : Obj} {news : List (Addr × Obj)} (N : News h₀ L h ((src, o) :: news)) (k : But [src] h h') (hs : h'.get? src = some o') (hoff : ∀ p ∈ news, p.1 ≠ src) : News h₀ L h' ((src, o') :: news) := fun p hp => by
  rcases List.mem_cons.mp hp with rfl | hp
  · exact ⟨hs, (N _ (.head _)).2⟩
  · have := N p (List.mem_cons_of_mem _ hp)
    exact ⟨k _ _ this.1 (fun hb => hoff p hp (List.mem_singleton.mp hb)), this.2⟩
end Mine
end
section
open PySem PySem.W PyProof.Rows
set_option Elab.async false
namespace Mine
/-- a goal at which the walk is to stop -/
def Hold (P : Prop) : Prop := P
theorem Hold.out {P : Prop} (h : Hold P) : P := h
theorem Hold.back {P : Prop} (h : P) : Hold P := h

theorem bitOr_sub (x y : Int) : Builtin.bitOr x y = x + y - Builtin.bitAnd x y := by
  have h := bitXor_and x y
  unfold Builtin.bitXor at h
  omega
theorem bitAnd_nat (x y : Nat) : Builtin.bitAnd (x : Int) (y : Int) = ((x &&& y : Nat) : Int) := by
  unfold Builtin.bitAnd
  simp
theorem xor_add (x : Nat) : ∀ y : Nat, (x ^^^ y) + 2 * (x &&& y) = x + y := by
  induction x using Nat.strongRecOn with
  | ind x ih =>
    intro y
    by_cases hx : x = 0
    · subst hx; simp
    · have h1 := ih (x / 2) (by omega) (y / 2)
      have h2 : (x ^^^ y) / 2 = x / 2 ^^^ y / 2 := Nat.xor_div_two
      have h3 : (x &&& y) / 2 = x / 2 &&& y / 2 := Nat.and_div_two
      have h4 : (x ^^^ y) % 2 = 1 ↔ ¬ (x % 2 = 1 ↔ y % 2 = 1) := Nat.xor_mod_two_eq_one
      have h5 : (x &&& y) % 2 = 1 ↔ x % 2 = 1 ∧ y % 2 = 1 := Nat.and_mod_two_eq_one
      omega
theorem bitXor_nat (x y : Nat) : Builtin.bitXor (x : Int) (y : Int) = ((x ^^^ y : Nat) : Int) := by
  have h : (x ^^^ y) + 2 * (x &&& y) = x + y := xor_add x y
  rw [bitXor_and, bitAnd_nat]
  omega
theorem and_disj {k m : Nat} (hm : 2 ^ k = m) (q y : Nat) (hy : y < m) : (q * m) &&& y = 0 := by
  subst hm
  rw [← Nat.shiftLeft_eq]
  apply Nat.eq_of_testBit_eq
  intro i
  rw [Nat.testBit_and, Nat.zero_testBit, Nat.testBit_shiftLeft]
  by_cases h : k ≤ i
  · have : y.testBit i = false := Nat.testBit_lt_two_pow (Nat.lt_of_lt_of_le hy (Nat.pow_le_pow_right (by decide) h))
    simp [this]
  · simp [h]
theorem bitOr_disj {k m : Nat} (hm : 2 ^ k = m) {x y : Int} (hx0 : 0 ≤ x) (hx : x % (m : Int) = 0) (hy0 : 0 ≤ y) (hy : y < (m : Int)) : Builtin.bitOr x y = x + y := by
  obtain ⟨a, rfl⟩ := Int.eq_ofNat_of_zero_le hx0
  obtain ⟨b, rfl⟩ := Int.eq_ofNat_of_zero_le hy0
  have hd : a % m = 0 := by omega
  have e : a = (a / m) * m := by
    have := Nat.div_add_mod a m
    rw [hd, Nat.mul_comm] at this
    omega
  rw [bitOr_sub, bitAnd_nat]
  have := and_disj hm (a / m) b (by omega)
  rw [← e] at this
  rw [this]; simp
theorem bitOr_comm' (x y : Int) : Builtin.bitOr x y = Builtin.bitOr y x := by
  rw [bitOr_sub, bitOr_sub, bitAnd_comm]; omega
theorem xor_bounds {k m : Nat} (hm : 2 ^ k = m) {x y : Int} (hx0 : 0 ≤ x) (hx : x < (m : Int)) (hy0 : 0 ≤ y) (hy : y < (m : Int)) : 0 ≤ Builtin.bitXor x y ∧ Builtin.bitXor x y < (m : Int) := by
  obtain ⟨a, rfl⟩ := Int.eq_ofNat_of_zero_le hx0
  obtain ⟨b, rfl⟩ := Int.eq_ofNat_of_zero_le hy0
  rw [bitXor_nat]
  subst hm
  have := Nat.xor_lt_two_pow (x := a) (y := b) (n := k) (by omega) (by omega)
  omega

section
variable {prog : Program} {w : World} {A : Around} {E : Value → Shared → Prop} {s : Shared} {a b : Int} {t u : Tok} {Q : Value → Shared → Prop}
theorem shrL {n p : Int} (hn : 0 ≤ n) (hp : (2 : Int) ^ n.toNat = p) (h : Q (.int (a / p) s.toks) { s with toks := s.toks + 1 }) : wpAny (model prog w) A (binaryOp .RShift (.int a t) (.int n u)) Q E s := by
  subst hp
  refine rshift_int hn ?_
  rw [Int.fdiv_eq_ediv_of_nonneg _ (Int.le_of_lt (Int.pow_pos (by decide)))]
  exact h
theorem shlL {n p : Int} (hn : 0 ≤ n) (hn2 : n ≤ 1000) (hp : (2 : Int) ^ n.toNat = p) (h0 : 0 ≤ a) (h1 : a < 4294967296) (h : Q (.int (a * p) s.toks) { s with toks := s.toks + 1 }) : wpAny (model prog w) A (binaryOp .LShift (.int a t) (.int n u)) Q E s := by
  subst hp
  exact lshift_int_small hn (by omega) (by omega) h
theorem andL {k m : Int} (hk : ∀ x, Builtin.bitAnd x k = x % m) (h : Q (.int (a % m) s.toks) { s with toks := s.toks + 1 }) : wpAny (model prog w) A (binaryOp .BitAnd (.int a t) (.int k u)) Q E s := by
  refine and_int ?_
  rw [hk]; exact h
theorem orL {k m : Nat} (hm : 2 ^ k = m) (hx0 : 0 ≤ a) (hx : a % (m : Int) = 0) (hy0 : 0 ≤ b) (hy : b < (m : Int)) (h : Q (.int (a + b) s.toks) { s with toks := s.toks + 1 }) :
    wpAny (model prog w) A (binaryOp .BitOr (.int a t) (.int b u)) Q E s := by
  refine or_int ?_
  rw [bitOr_disj hm hx0 hx hy0 hy]; exact h
theorem orR {k m : Nat} (hm : 2 ^ k = m) (hx0 : 0 ≤ b) (hx : b % (m : Int) = 0) (hy0 : 0 ≤ a) (hy : a < (m : Int)) (h : Q (.int (a + b) s.toks) { s with toks := s.toks + 1 }) :
    wpAny (model prog w) A (binaryOp .BitOr (.int a t) (.int b u)) Q E s := by
  refine or_int ?_
  rw [bitOr_comm', bitOr_disj hm hx0 hx hy0 hy, Int.add_comm]; exact h
theorem shr24 (h : Q (.int (a / 16777216) s.toks) { s with toks := s.toks + 1 }) : wpAny (model prog w) A (binaryOp .RShift (.int a t) (.int 24 u)) Q E s := shrL (by decide) (by decide) h
theorem shr16 (h : Q (.int (a / 65536) s.toks) { s with toks := s.toks + 1 }) : wpAny (model prog w) A (binaryOp .RShift (.int a t) (.int 16 u)) Q E s := shrL (by decide) (by decide) h
theorem shr8 (h : Q (.int (a / 256) s.toks) { s with toks := s.toks + 1 }) : wpAny (model prog w) A (binaryOp .RShift (.int a t) (.int 8 u)) Q E s := shrL (by decide) (by decide) h
theorem shr4 (h : Q (.int (a / 16) s.toks) { s with toks := s.toks + 1 }) : wpAny (model prog w) A (binaryOp .RShift (.int a t) (.int 4 u)) Q E s := shrL (by decide) (by decide) h
theorem shr1 (h : Q (.int (a / 2) s.toks) { s with toks := s.toks + 1 }) : wpAny (model prog w) A (binaryOp .RShift (.int a t) (.int 1 u)) Q E s := shrL (by decide) (by decide) h
theorem shl24 (h0 : 0 ≤ a) (h1 : a < 4294967296) (h : Q (.int (a * 16777216) s.toks) { s with toks := s.toks + 1 }) : wpAny (model prog w) A (binaryOp .LShift (.int a t) (.int 24 u)) Q E s := shlL (by decide) (by decide) (by decide) h0 h1 h
theorem shl16 (h0 : 0 ≤ a) (h1 : a < 4294967296) (h : Q (.int (a * 65536) s.toks) { s with toks := s.toks + 1 }) : wpAny (model prog w) A (binaryOp .LShift (.int a t) (.int 16 u)) Q E s := shlL (by decide) (by decide) (by decide) h0 h1 h
theorem shl8 (h0 : 0 ≤ a) (h1 : a < 4294967296) (h : Q (.int (a * 256) s.toks) { s with toks := s.toks + 1 }) : wpAny (model prog w) A (binaryOp .LShift (.int a t) (.int 8 u)) Q E s := shlL (by decide) (by decide) (by decide) h0 h1 h
theorem orL24 (hx0 : 0 ≤ a) (hx : a % 16777216 = 0) (hy0 : 0 ≤ b) (hy : b < 16777216) (h : Q (.int (a + b) s.toks) { s with toks := s.toks + 1 }) : wpAny (model prog w) A (binaryOp .BitOr (.int a t) (.int b u)) Q E s := orL (k := 24) (m := 16777216) (by decide) hx0 hx hy0 hy h
theorem orR24 (hx0 : 0 ≤ b) (hx : b % 16777216 = 0) (hy0 : 0 ≤ a) (hy : a < 16777216) (h : Q (.int (a + b) s.toks) { s with toks := s.toks + 1 }) : wpAny (model prog w) A (binaryOp .BitOr (.int a t) (.int b u)) Q E s := orR (k := 24) (m := 16777216) (by decide) hx0 hx hy0 hy h
theorem orL16 (hx0 : 0 ≤ a) (hx : a % 65536 = 0) (hy0 : 0 ≤ b) (hy : b < 65536) (h : Q (.int (a + b) s.toks) { s with toks := s.toks + 1 }) : wpAny (model prog w) A (binaryOp .BitOr (.int a t) (.int b u)) Q E s := orL (k := 16) (m := 65536) (by decide) hx0 hx hy0 hy h
theorem orR16 (hx0 : 0 ≤ b) (hx : b % 65536 = 0) (hy0 : 0 ≤ a) (hy : a < 65536) (h : Q (.int (a + b) s.toks) { s with toks := s.toks + 1 }) : wpAny (model prog w) A (binaryOp .BitOr (.int a t) (.int b u)) Q E s := orR (k := 16) (m := 65536) (by decide) hx0 hx hy0 hy h
theorem orL8 (hx0 : 0 ≤ a) (hx : a % 256 = 0) (hy0 : 0 ≤ b) (hy : b < 256) (h : Q (.int (a + b) s.toks) { s with toks := s.toks + 1 }) : wpAny (model prog w) A (binaryOp .BitOr (.int a t) (.int b u)) Q E s := orL (k := 8) (m := 256) (by decide) hx0 hx hy0 hy h
theorem orR8 (hx0 : 0 ≤ b) (hx : b % 256 = 0) (hy0 : 0 ≤ a) (hy : a < 256) (h : Q (.int (a + b) s.toks) { s with toks := s.toks + 1 }) : wpAny (model prog w) A (binaryOp .BitOr (.int a t) (.int b u)) Q E s := orR (k := 8) (m := 256) (by decide) hx0 hx hy0 hy h
theorem and255 (h : Q (.int (a % 256) s.toks) { s with toks := s.toks + 1 }) : wpAny (model prog w) A (binaryOp .BitAnd (.int a t) (.int 255 u)) Q E s := andL (k := 255) (m := 256) bitAnd_m8 h
theorem and65535 (h : Q (.int (a % 65536) s.toks) { s with toks := s.toks + 1 }) : wpAny (model prog w) A (binaryOp .BitAnd (.int a t) (.int 65535 u)) Q E s := andL (k := 65535) (m := 65536) bitAnd_m16 h
theorem and15 (h : Q (.int (a % 16) s.toks) { s with toks := s.toks + 1 }) : wpAny (model prog w) A (binaryOp .BitAnd (.int a t) (.int 15 u)) Q E s := andL (k := 15) (m := 16) bitAnd_m4 h
theorem and1 (h : Q (.int (a % 2) s.toks) { s with toks := s.toks + 1 }) : wpAny (model prog w) A (binaryOp .BitAnd (.int a t) (.int 1 u)) Q E s := andL (k := 1) (m := 2) bitAnd_m1 h
theorem xorL (hx0 : 0 ≤ a) (hx : a < 4294967296) (hy0 : 0 ≤ b) (hy : b < 4294967296)
    (h : ∀ r, r = Builtin.bitXor a b → 0 ≤ r → r < 4294967296 → Q (.int r s.toks) { s with toks := s.toks + 1 }) :
    wpAny (model prog w) A (binaryOp .BitXor (.int a t) (.int b u)) Q E s := by
  have hb := xor_bounds (k := 32) (m := 4294967296) (by decide) hx0 hx hy0 hy
  exact xor_int (h _ rfl hb.1 hb.2)
theorem divL (hb : 0 < b) (hb2 : b < 1073741824) (h : Q (.int (a / b) s.toks) { s with toks := s.toks + 1 }) : wpAny (model prog w) A (binaryOp .FloorDiv (.int a t) (.int b u)) Q E s := by
  refine floordiv_int (by omega) ?_ (Or.inl (PyProof.noPylong_small (by omega)))
  rw [Int.fdiv_eq_ediv_of_nonneg _ (by omega)]; exact h
theorem modL (hb : 0 < b) (h : Q (.int (a % b) s.toks) { s with toks := s.toks + 1 }) : wpAny (model prog w) A (binaryOp .Mod (.int a t) (.int b u)) Q E s := by
  refine mod_int' (by omega) ?_
  rw [Int.fmod_eq_emod_of_nonneg _ (by omega)]; exact h
theorem pow2L {n : Int} (h0 : 0 ≤ n) (h1 : n < 8) (h : ∀ p, p = (2 : Int) ^ n.toNat → 1 ≤ p → p ≤ 128 → Q (.int p s.toks) { s with toks := s.toks + 1 }) : wpAny (model prog w) A (binaryOp .Pow (.int 2 t) (.int n u)) Q E s := by
  refine pow_int_small h0 (by omega) (by decide) (h _ rfl ?_ ?_)
  · have : (1 : Int) ≤ 2 ^ n.toNat := Int.pow_pos (by decide : (0 : Int) < 2); exact this
  · have : n = 0 ∨ n = 1 ∨ n = 2 ∨ n = 3 ∨ n = 4 ∨ n = 5 ∨ n = 6 ∨ n = 7 := by omega
    rcases this with rfl | rfl | rfl | rfl | rfl | rfl | rfl | rfl <;> decide
theorem pow256L {n : Int} (h0 : 0 ≤ n) (h1 : n < 4) (h : ∀ p, p = (256 : Int) ^ n.toNat → 1 ≤ p → p ≤ 16777216 → Q (.int p s.toks) { s with toks := s.toks + 1 }) : wpAny (model prog w) A (binaryOp .Pow (.int 256 t) (.int n u)) Q E s := by
  refine pow_int_small h0 (by omega) (by decide) (h _ rfl ?_ ?_)
  · have : (1 : Int) ≤ 256 ^ n.toNat := Int.pow_pos (by decide : (0 : Int) < 256); exact this
  · have : n = 0 ∨ n = 1 ∨ n = 2 ∨ n = 3 := by omega
    rcases this with rfl | rfl | rfl | rfl <;> decide
theorem item_bytes {x : List UInt8} {i : Int} {t ui : Tok} {value slice : Expr} (hfit : x.length ≤ 1099511627776) (h0 : 0 ≤ i) (h1 : i < (x.length : Int))
    (h : ∀ k : Int, k = (((x.getD i.toNat 0).toNat : Nat) : Int) → 0 ≤ k → k < 256 → Q (.int k s.toks) { s with toks := s.toks + 1 })
    (hs : subscripted slice false (.bytes x.toArray t) (.int i ui) = operate [.bytes x.toArray t, .int i ui] (getItem (.bytes x.toArray t) (.int i ui)) := by with_unfolding_all rfl)
    (ht : ∀ r, letTemporaryGo value (.bytes x.toArray t) r = pure () := by intro _; with_unfolding_all rfl) : wpAny (model prog w) A (subscriptTail value slice (.bytes x.toArray t) (.int i ui)) Q E s :=
  bytes_item_K hfit h0 h1 rfl (h _ rfl (by omega) (by have := (x.getD i.toNat 0).toNat_lt; omega)) hs ht
end
end Mine
end
section
open PySem PySem.W PyProof.Rows
set_option Elab.async false
set_option linter.unusedVariables false
namespace Mine
open Sem (wp)
section
variable {prog : Program} {w : World} {A : Around} {G : Heap} {s : Shared} {d u : Nat}
  {R : Result → Shared → Prop} {name qual : Str} {params : Arguments} {body : List Stmt} {scope : Scope} {dV kV doc pm cdv ct oc : Value} {an od : Option Addr} {osl : Array (Option Value)} {f : Addr} {args : Args} {binds : List (Str × Value)}
theorem enterS (S : Site w A G s.heap d u) (hid : List (Addr × Obj))
    (hh : ∀ p ∈ hid, s.heap.get? p.1 = some p.2 ∧ G.get? p.1 = none ∧ ∀ es n, p.2.data ≠ .dict es n)
    (ho : (hd.heap_39 w.params).lookup f = some ⟨oc, od, .func (fnX name qual params body scope [] dV kV doc pm an cdv ct), osl⟩) (hcd : codeIn (hd.heap_39 w.params) cdv qual = true)
    (hbind : BindsTo s (fnX name qual params body scope [] dV kV doc pm an cdv ct) args binds) (hloc : ∀ y ∈ binds, scope.names.lookup y.1 = some .local)
    (h : ∀ g L' h₁ fr mean mg mb, (∀ h', g.StaysIn h' → But (hid.map (·.1)) s.heap h') → Fr g L' h₁ (fun y => binds.reverse.lookup y) → News g L' h₁ hid → Site w A G g d u → Below A G fr g → (hd.heap_39 w.params).In g → Top hd.view_39 (looseW hd.view_39 [Str.ofString "crc32", Str.ofString "adler32", Str.ofString "stored"]) mean mg mb g →
      (∀ p ∈ hid, p.1 < L') →
      wpS (model prog w) (A.deeper (envX qual scope L' f cdv [])) (execs body (envX qual scope L' f cdv []))
        (fun fl s' => R (.ok (.ret (match fl with | .ret v => v | _ => .none))) s')
        (fun e s' => wpAny (model prog w) (A.deeper (envX qual scope L' f cdv [])) (leaving (envX qual scope L' f cdv []) e) (fun _ s'' => R (.error e) s'') (fun e' s'' => R (.error e') s'') s')
        { s with heap := h₁, toks := s.toks + binds.length })
    (hcell : ∀ x ∈ scope.names, x.2 ≠ .cell) (hco : scope.isCoroutine = false) (hgen : scope.isGenerator = false) (hk : scope.kind = .function) :
    codeS (model prog w) A (.call (.ref f) args) R s := by
  have X : (hd.heap_39 w.params).In s.heap := S.kin.keeps S.gst
  obtain ⟨mean, mg, mb, T⟩ := S.top
  have Sg := S.hide hh
  obtain ⟨fr, B, D⟩ := Sg.fr
  refine codeS_call_def (fd := fnX name qual params body scope [] dV kV doc pm an cdv ct) (body := body) (binds := binds) (by have := S.dep; omega) (X _ _ ho) rfl (T.nolimit.keeps S.gst) (codeRec_of X hcd) rfl hbind hcell hloc (fun h₁ hns hk₁ => ?_) hco hgen hk
  refine wpS_mono ?_ (fun _ _ x => x) fun _ _ x => wpS_of_any x
  exact h _ s.heap.objs.size h₁ fr mean mg mb (fun h' k => But.of_hide k) ⟨hns, fun b o e => hk₁ b o (of_hideAll _ e), Nat.le_of_eq (hideAll_size _ _)⟩
    (fun p hp => ⟨hk₁ _ _ (hh p hp).1, Nat.ne_of_lt (Heap.lt_size (hh p hp).1), hideAll_none _ (List.mem_map_of_mem hp)⟩) Sg B (S.kin.keeps Sg.gst) (T.keeps Sg.gst) (fun p hp => Heap.lt_size (hh p hp).1)
end
end Mine
end
section
open PySem PySem.W PyProof.Rows PySem.Calls PySem.Builtin PySem.Builtin.ObjectAttr
set_option Elab.async false
set_option linter.unusedVariables false
set_option maxRecDepth 100000
namespace Mine
/-! the program's own exception class, which keeps its message -/
theorem Site.make {w : World} {A : Around} {G h : Heap} {d u : Nat} {C : Addr} {rest : List Value} {kw : List (Str × Value)} (S : Site w A G h (d + 1) (u + 1)) : Site w (A.under (.builtin "type.__call__" ⟨.ref C :: rest, kw⟩)) G h d u := by
  obtain ⟨hdl, dpt, frm, gds, unt⟩ := A
  have e : (Around.mk hdl dpt frm gds unt).under (.builtin "type.__call__" ⟨.ref C :: rest, kw⟩) = ⟨hdl, dpt + 1, frm, gds, unt + 1⟩ := by
    cases frm <;> cases gds <;> rfl
  rw [e]
  obtain ⟨h1, h2, h3, h4, h5, fr, B, D⟩ := S
  exact ⟨h1, by dsimp only at h2 ⊢; omega, by dsimp only at h3 ⊢; omega, h4, h5, fr, ⟨B.stack, B.stays, B.frames⟩, D⟩
noncomputable abbrev clsSF : Obj := excClassObj (Str.ofString "SheetFault") (Str.ofString "SheetFault") 44 43 [.ref 31] [.ref 31, .type "Exception", .type "BaseException", .type "object"] true [] [] false none none
  (some (.ref 35)) none (some (.str (Str.ofString "SheetFault") 218)) (some (.str (Str.ofString "SheetFault") 226)) (some (.bool true)) "Exception.__new__"
noncomputable abbrev excObj (t : Addr) : Obj := { cls := .ref 44, data := .fields #[.ref t, .none, .none, .none, .bool false, .none] }
noncomputable abbrev excObjD (t dx : Addr) : Obj := { cls := .ref 44, dict := some dx, data := .fields #[.ref t, .none, .none, .none, .bool false, .none] }
section
variable {prog : Program} {w : World} {A : Around} {E : Value → Shared → Prop} {h : Heap} {g : Array GenState} {d : Drawn} {tk : Nat} {os : OsState} {R : Result → Shared → Prop}
theorem sf_cls (X : (hd.heap_39 w.params).In h) : h.get? 44 = some clsSF := by
  have hr9 : (model PySem.Challenge.rw_nu0004_01.row.prog w) = (model PySem.Challenge.rw_nu0004_01.row.prog w) := rfl
  have hK0 := X; revert hr9 hK0; k_fill; intro hr9 hK0
  exact hK0 _ _ (by k_is)
theorem sf_init (X : (hd.heap_39 w.params).In h) {M : Model} : Looks M h (typeLookup (.ref 44) "__init__") (some (.ref 28)) := by
  have hr9 : (model PySem.Challenge.rw_nu0004_01.row.prog w) = (model PySem.Challenge.rw_nu0004_01.row.prog w) := rfl
  have hK0 := X; revert hr9 hK0; k_fill; intro hr9 hK0
  exact looks_findIn hK0 (by k_is)
theorem sf_bind (X : (hd.heap_39 w.params).In h) {M : Model} (self : Value) : Looks M h (bindSpecial (.ref 28) self) (.ref 28, [self]) := by
  have hr9 : (model PySem.Challenge.rw_nu0004_01.row.prog w) = (model PySem.Challenge.rw_nu0004_01.row.prog w) := rfl
  have hK0 := X; revert hr9 hK0; k_fill; intro hr9 hK0
  exact bind_fn hK0 self (by k_is)
theorem sf_msg (X : (hd.heap_39 w.params).In h) {M : Model} : Looks M h (typeLookup (.ref 44) "message") none := by
  have hr9 : (model PySem.Challenge.rw_nu0004_01.row.prog w) = (model PySem.Challenge.rw_nu0004_01.row.prog w) := rfl
  have hK0 := X; revert hr9 hK0; k_fill; intro hr9 hK0
  exact looks_findIn hK0 (by k_is)
theorem sf_mro (X : (hd.heap_39 w.params).In h) {M : Model} : Looks M h (mroOf (.ref 44)) [.ref 44, .ref 31, .type "Exception", .type "BaseException", .type "object"] :=
  ((Looks.ld (part := none) (sf_cls X)).andThen .now).andThen .now
theorem sf_setattr (X : (hd.heap_39 w.params).In h) {x t : Addr} (hx : h.get? x = some (excObj t)) {tk1 : Tok} {v : Value}
    (hq : ∀ h' dx tk', h'.get? x = some (excObjD t dx) → (∀ b o, b ≠ x → h.get? b = some o → h'.get? b = some o) → R (.ok (.ret .none)) ⟨h', g, d, tk', os⟩) :
    codeAny (model prog w) A (.call (.builtin "object.__setattr__") ⟨[.ref x, .str "message" tk1, v], []⟩) R ⟨h, g, d, tk, os⟩ := by
  have SF := PySem.F.store_object
  have SE := PySem.F.store_Exception
  have I : InstAt h x (excObj t) 44 none := ⟨hx, rfl, rfl, trivial⟩
  have hm := sf_mro X (M := model prog w)
  have sub : Looks (model prog w) h (isInstance (.ref x) (.type "object")) true := by
    refine I.type.andThen ?_
    intro A Q E s k q
    obtain ⟨hp, g', d', t', os'⟩ := s
    have := sf_cls (X.keeps k)
    refine wpAny_isSubtype_exc (sf_cls (X.keeps k)) ?_
    exact q
  refine codeAny_call_builtin SF.slot.plain SF.entry (@check_slot (model prog w) _ _ ⟨h, g, d, tk, os⟩ "object.__setattr__" "object" "__setattr__" (.ref x) [.str "message" tk1, v] [] _ SF.kind SF.split sub (SF.args (.ref x) (.str "message" tk1) v) ?_)
  rw [osa_eq, refuse_eq]
  refine wpAny_bind (wpAny_bind (I.type.here (wpAny_bind (hm.here ?_))))
  rw [refuseLoop_ref, refuseLoop_ref, SE.passes]
  refine wpAny_pure (wpAny_bind (I.type.here (wpAny_bind ((sf_msg X).here ?_))))
  refine wpAny_bind (wpAny_pure ?_)
  show wpAny _ _ (storeInOwnDict (.ref x) (.ref 44) (.str "message" tk1) "message" v false) _ _ _
  unfold storeInOwnDict
  have hc : Looks (model prog w) h (classData 44) _ := (Looks.ld (part := none) (sf_cls X)).andThen .now
  refine wpAny_bind (wpAny_pure ?_)
  have hx₁ : (h.push { cls := .type "dict", data := .dict #[] }).get? x = some (excObj t) := Heap.get?_push_of_some _ hx
  have hxs : x ≠ h.objs.size := Nat.ne_of_lt (Heap.lt_size hx)
  refine wpAny_bind (wpAny_bind (wpAny_loadPart hx (wpAny_bind (hc.here ?_))))
  show wpAny _ _ (alloc { cls := .type "dict", data := .dict #[] } >>= fun d => update x (fun o => { o with dict := some d }) >>= fun _ => dictMade (.ref 44) x d) _ _ _
  refine wpAny_bind (wpAny_alloc' ?_)
  refine wpAny_bind (wpAny_update' hx₁ ?_)
  refine wpAny_pure ?_
  have hgd : ((h.push { cls := .type "dict", data := .dict #[] }).update x fun o => { cls := o.cls, dict := some h.objs.size, data := o.data, slots := o.slots }).get? h.objs.size
      = some { cls := .type "dict", data := .dict #[] } :=
    (Heap.get?_update_ne _ _ _ _ hxs.symm).trans (Heap.get?_push_at rfl rfl)
  have hnd : ((h.push { cls := .type "dict", data := .dict #[] }).update x fun o => { cls := o.cls, dict := some h.objs.size, data := o.data, slots := o.slots }).Ns h.objs.size (fun _ => none) :=
    ⟨_, #[], _, hgd, rfl, fun e he => absurd he (by simp), fun _ => rfl⟩
  show wpAny _ _ (storeInDict h.objs.size (.str "message" tk1) "message" v) _ _ _
  unfold storeInDict newKeyGuard
  refine wpAny_bind (wpAny_pure (wpAny_bind (wpAny_nsSet1 (Heap.Ns1.of_empty hnd) fun h' hn' hs => ?_)))
  obtain ⟨oD, esD, epD, hoD, hdD, hcD⟩ := hn'.count (Within.cons "message" v Within.nil)
  refine wpAny_bind (wpAny_lookBehind hoD (by rw [hdD]; exact pastItsLine_dict (Nat.le_trans hcD (by rw [List.length_cons, List.length_nil, sizeLine_eq]; omega))) ?_)
  refine wpAny_pure ?_
  refine hq h' h.objs.size _ ?_ fun b o hb e => ?_
  · exact (hs.2 x hxs).trans (Heap.get?_update_self _ hx₁ rfl)
  · exact (hs.2 b (Nat.ne_of_lt (Heap.lt_size e))).trans ((Heap.get?_update_ne _ _ _ _ hb).trans (Heap.get?_push_of_some _ e))
theorem sf_store (X : (hd.heap_39 w.params).In h) {x t : Addr} (hx : h.get? x = some (excObj t)) {v : Value} {Q : Unit → Shared → Prop}
    (hq : ∀ h' dx tk', h'.get? x = some (excObjD t dx) → (∀ b o, b ≠ x → h.get? b = some o → h'.get? b = some o) → Q () ⟨h', g, d, tk', os⟩) :
    wpAny (model prog w) A (setAttr (.ref x) "message" v) Q E ⟨h, g, d, tk, os⟩ := by
  have I : InstAt h x (excObj t) 44 none := ⟨hx, rfl, rfl, trivial⟩
  have hs : findIn (hd.heap_39 w.params) (.ref 44) "__setattr__" = some (some (.builtin "object.__setattr__")) := by
    have hr9 : (model PySem.Challenge.rw_nu0004_01.row.prog w) = (model PySem.Challenge.rw_nu0004_01.row.prog w) := rfl
    have hK0 := X; revert hr9 hK0; k_fill; intro hr9 hK0
    exact Eq.trans (b := some (some (.builtin "object.__setattr__"))) (by k_is) rfl
  exact set_plain (s := ⟨h, g, d, tk, os⟩) X I hs (sf_setattr X hx hq)
end
end Mine
end
section
open PySem PySem.W PyProof.Rows PySem.Calls PySem.Builtin PySem.Builtin.ObjectAttr
set_option Elab.async false
set_option linter.unusedVariables false
set_option maxRecDepth 100000
namespace Mine
local macro_rules | `(tactic| walk_at "setAttr ref") => `(tactic| refine Hold.out ?_)
set_option maxRecDepth 100000 in
set_option maxHeartbeats 8000000 in
theorem mill_init {w : World} {A : Around} {G : Heap} {s : Shared} {e t : Addr} {msg : Str} {tm : Tok} {Q : Value → Shared → Prop} {E : Value → Shared → Prop}
    (S : Site w A G s.heap 5 40) (he : s.heap.get? e = some (excObj t)) (hG : G.get? e = none)
    (ret : ∀ h' tk dx, But [e] s.heap h' → h'.get? e = some (excObjD t dx) → Q .none { s with heap := h', toks := tk }) :
    wpAny (model PySem.Challenge.rw_nu0004_01.row.prog w) A (call (.ref 28) [.ref e, .str msg tm]) Q E s := by
  w_top off
  obtain ⟨hdl, dpt, frm, gds, unt⟩ := A; obtain rfl : hdl = none := S.hnd
  have hK0 := S.kin; have hK9 := Frag.In.keeps S.kin S.gst; revert hK0; k_fill; intro hK0
  refine wpAny_call ?_
  refine' enter (binds := [(Str.ofString "self", Value.ref e), (Str.ofString "message", Value.str msg tm)]) S [(e, excObj t)] ?hh ?ho ?hcd ?hb ?hl ?_ ?c1 ?c2 ?c3 ?c4
  case hh => intro p hp; rcases List.mem_singleton.mp hp with rfl; exact ⟨he, hG, fun _ _ q => by cases q⟩
  case ho => k_is
  case hcd => k_is
  case hb => first | exact hbnd _ _ _ _ (by k_is) | exact BindsTo.of_eq rfl | exact binds_K hK9 rfl (by k_is) rfl rfl rfl
  case hl => exact locs rfl
  case c1 => decide
  case c2 => exact rfl
  case c3 => exact rfl
  case c4 => exact rfl
  clear hK0 hK9
  intro g L' h₁ fr mean mg mb hg F N S' B X T l1
  dsimp only [List.length, List.map] at *
  try k_fold
  refine letA ?_; intro ak
  have l2 := l1 _ (List.mem_singleton.mpr rfl)
  clear l1
  dsimp only at l2
  k_steps
  refine Hold.back ?_
  have XS : (hd.heap_39 w.params).In h₁ := Frag.In.keeps X (Fr.keep F)
  have hN := N _ (List.mem_singleton.mpr rfl)
  refine sf_store XS hN.1 fun h' dx tk' h1 h2 => ?_
  have key := ret h' tk' dx (hg _ fun b o hb => h2 b o (fun q => by rw [q, hN.2.2] at hb; cases hb) (F.keep b o hb)) h1
  k_steps
  exact key
end Mine
end
section
open PySem PySem.W PyProof.Rows PySem.Calls PySem.Builtin PySem.Builtin.ObjectAttr
set_option Elab.async false
set_option linter.unusedVariables false
set_option maxRecDepth 100000
namespace Mine
/-- a new fault -/
structure MadeF (h h' : Heap) (e : Addr) : Prop where
  keeps : h.StaysIn h'
  new : h.get? e = none
  there : ∃ t dx, h'.get? e = some (excObjD t dx)
section
variable {w : World} {A : Around} {E : Value → Shared → Prop} {h : Heap} {g : Array GenState} {d : Drawn} {tk : Nat} {os : OsState} {R : Result → Shared → Prop} {G : Heap}
theorem ctB : ([.ref 44, .ref 31, .type "Exception", .type "BaseException", .type "object"] : List Value).contains (.type "Exception") = true := by decide
theorem ctA : ([.ref 44, .ref 31, .type "Exception", .type "BaseException", .type "object"] : List Value).contains (.type "AttributeError") = false := by decide
theorem ctN : ([.ref 44, .ref 31, .type "Exception", .type "BaseException", .type "object"] : List Value).contains (.type "NameError") = false := by decide
theorem ctC : ([.ref 44, .ref 31, .type "Exception", .type "BaseException", .type "object"] : List Value).contains (.ref 44) = true := by decide
theorem ctX : ([.ref 44, .ref 31, .type "Exception", .type "BaseException", .type "object"] : List Value).contains (.type "BaseException") = true := by decide
theorem sf_check_new {rest : List Value} {Q : Unit → Shared → Prop} {M : Model} (hC : h.get? 44 = some clsSF)
    (hq : Q () ⟨h, g, d, tk, os⟩) : wpAny M A (checkBuiltinCall "Exception.__new__" ⟨.ref 44 :: rest, []⟩) Q E ⟨h, g, d, tk, os⟩ := by
  have F := PySem.F.excBase_Exception
  have hstar := F.noStar
  simp only [checkBuiltinCall, F.newKind, F.newSplit, F.newRow]
  repeat (first | refine wpAny_loadPart_at hC ?_ | (refine wpAny_isSubtype_exc hC ?_; rw [ctB]) | refine wpAny_staticBase_exc hC ?_ | refine wpAny_madeBy_exc hC ?_ | simp only [bne_self_eq_false, Bool.false_eq_true, if_false] | wp_step)
  exact hq
theorem sf_new {prog : Program} {rest : List Value} (hC : h.get? 44 = some clsSF)
    (hq : R (.ok (.ret (.ref (h.objs.size + 1)))) ⟨(h.push { cls := .type "tuple", data := .seq rest.toArray }).push (excObj h.objs.size), g, d, tk, os⟩) (hrest : rest.length ≤ sizeLine) :
    codeAny (model prog w) A (.builtin "Exception.__new__" ⟨.ref 44 :: rest, []⟩) R ⟨h, g, d, tk, os⟩ := by
  have F := PySem.F.excBase_Exception
  have hends := F.ends
  refine codeAny_builtinAt F.entry ?_
  unfold Builtin.«BaseException.__new__»
  refine PySem.wpAt_bind ?_
  show PySem.wpAt _ _ _ (stack >>= _) _ _ _
  refine PySem.wpAt_bind (PySem.wpAt_stack fun p below => PySem.wpAt_of_wpAny ?_)
  wp_walk
  refine PySem.wpAt_of_wpAny ?_
  rw [F.owner]
  repeat (first | with_reducible refine wpAny_madeHere_exc F.canon hC ?_ | with_reducible refine wpAny_loadPart_at hC ?_ | (with_reducible refine wpAny_isSubtype_exc hC ?_; first | rw [ctB] | rw [ctA] | rw [ctN]) | wp_step)
  show R _ _
  rw [Heap.size_push]
  exact hq
theorem sf_typecall {rest : Str} {tr : Tok} {Q : Fin → Shared → Prop} (S : Site w A G h 5 40)
    (hq : ∀ h' e tk', MadeF h h' e → Q (.done (.ret (.ref e))) ⟨h', g, d, tk', os⟩) :
    wpAny (model PySem.Challenge.rw_nu0004_01.row.prog w) A (Builtin.«type.__call__» ⟨[.ref 44, .str rest tr], []⟩) Q E ⟨h, g, d, tk, os⟩ := by
  have F := PySem.F.excBase_Exception
  have X : (hd.heap_39 w.params).In h := S.kin.keeps S.gst
  have hC := sf_cls X
  repeat (first | with_reducible refine wpAny_loadPart_at hC ?_ | with_reducible refine wpAny_madeBy_exc hC ?_ | wp_step)
  refine codeAny_call_builtin_code (Code.quiet_builtin _ F.quiet) (sf_check_new hC ?_)
  refine sf_new hC ?_ (by rw [sizeLine_eq]; simp only [List.length_cons, List.length_nil]; omega)
  show wpAny _ _ _ _ _ _
  have k : h.StaysIn ((h.push { cls := .type "tuple", data := .seq [Value.str rest tr].toArray }).push (excObj h.objs.size)) := fun b o e => Heap.get?_push_of_some _ (Heap.get?_push_of_some _ e)
  have hC₁ := k _ _ hC
  have X₁ := X.keeps k
  have hget : ((h.push { cls := .type "tuple", data := .seq [Value.str rest tr].toArray }).push (excObj h.objs.size)).get? (h.objs.size + 1) = some (excObj h.objs.size) := by heap_get
  have hnone : h.get? (h.objs.size + 1) = none := Heap.get?_none_of_le (Nat.le_succ _)
  have S₁ := S.keeps k
  have hG : G.get? (h.objs.size + 1) = none := by
    cases q : G.get? (h.objs.size + 1) with
    | none => rfl
    | some o => have := S.gst _ _ q; rw [hnone] at this; cases this
  unfold isInstance
  repeat (first | with_reducible refine wpAny_loadPart_at hget ?_ | (with_reducible refine wpAny_isSubtype_exc hC₁ ?_; rw [ctC]) | wp_step)
  show wpAny _ _ (typeLookup (.ref 44) _) _ _ _
  refine (sf_init X₁).here ?_
  refine wpAny_holding (wpAny_bind ((sf_bind X₁ _).here ?_))
  refine wpAny_bind (mill_init (s := ⟨_, _, _, _, _⟩) S₁ hget hG fun h' tk' dx k1 k2 => ?_)
  repeat (first | wp_step)
  refine hq _ _ _ ⟨fun b o hb => k1 _ _ (k _ _ hb) (fun q => ?_), hnone, _, _, k2⟩
  rw [List.mem_singleton.mp q, hnone] at hb; cases hb
theorem sf_call {msg : Str} {tr : Tok} {Q : Value → Shared → Prop} (S : Site w A G h 6 41)
    (hq : ∀ h' e tk', MadeF h h' e → Q (.ref e) ⟨h', g, d, tk', os⟩) :
    wpAny (model PySem.Challenge.rw_nu0004_01.row.prog w) A (call (.ref 44) [.str msg tr]) Q E ⟨h, g, d, tk, os⟩ := by
  have X : (hd.heap_39 w.params).In h := S.kin.keeps S.gst
  have hC := sf_cls X
  have f1 := tc_lookup
  have f2 := tc_bind (.ref 44)
  have hT : (⟨h, g, d, tk, os⟩ : Shared).TypeIs (.ref 44) "type" := ⟨_, hC, rfl⟩
  refine wpAny_call (codeAny_of_tree ?_)
  show wpAny _ _ (callAny (.ref 44) _) _ _ _
  repeat (any_goals (first | assumption | with_reducible refine wpAny_loadPart_at hC ?_ | wp_step))
  refine ⟨rfl, ?_⟩
  refine codeAny_call_builtin_at (Code.quiet_builtin _ (by decide +kernel)) entry_typeCall (wpAny_check_type_call_sub hC ?_)
  exact sf_typecall (G := G) (Site.make (C := 44) (rest := [.str msg tr]) (kw := []) S) fun h' e tk' hm => hq h' e tk' hm
end
end Mine
end
section
open PySem PySem.W PyProof.Rows PySem.Calls
set_option Elab.async false
set_option linter.unusedVariables false
set_option maxRecDepth 100000
namespace Mine
section
variable {M : Model} {A : Around} {E : Value → Shared → Prop} {s : Shared} {env : Env}
theorem raiseStmt_fault {x : Sem Value} {Q : Flow → Shared → Prop} (hh : A.handled = none)
    (h : wpAny M A x (fun v s₁ => ∃ e t dx, v = .ref e ∧ s₁.heap.get? 44 = some clsSF ∧ s₁.heap.get? e = some (excObjD t dx) ∧ E (.ref e) s₁) E s) :
    wpAny M A (raiseStmt env (some x) none) Q E s := by
  unfold raiseStmt
  refine wpAny_bind (wpAny_mono h (fun v s₁ h₁ => ?_) fun _ _ x => x)
  obtain ⟨e, t, dx, rfl, hC, he, hE⟩ := h₁
  obtain ⟨hp, g, d, tk, os⟩ := s₁
  repeat (first | with_reducible refine wpAny_loadPart_at he ?_ | with_reducible refine wpAny_loadPart_at hC ?_ | (with_reducible refine wpAny_isSubtype_exc hC ?_; rw [ctX]) | wp_step)
  exact wpAny_raiseNew_none hh hE
theorem leave_fault {base h : Heap} {outer : List Env} {L e : Addr} {Q : Unit → Shared → Prop}
    (hfr : A.frames = some (env :: outer)) (hf : env.frame = some L) (hkb : base.StaysIn h) (hl : h.FunFrames base (env :: outer)) (hx : MadeF h s.heap e)
    (hQ : ∀ h' a0, Heap.FlyingW base outer e (.ref 44) a0 h' → Q () { s with heap := h' }) : wpAny M A (leaving env (.ref e)) Q E s := by
  obtain ⟨t, dx, he⟩ := hx.there
  have hen : base.get? e = none := by
    cases hq : base.get? e with
    | none => rfl
    | some o' => have := hkb e o' hq; rw [hx.new] at this; cases this
  refine wpAny_leaving_firstW hfr (hl.of_keeps fun b o hb _ => ⟨o, hx.keeps b o hb, rfl⟩) hf he (fun b o hb => hx.keeps b o (hkb b o hb)) hen rfl rfl rfl fun h' hL => ?_
  obtain ⟨k1, ⟨_, _, k2⟩, k3, _⟩ := hL
  exact hQ h' _ ⟨k1, hen, k2, k3⟩
end
section
variable {prog : Program} {w : World} {A : Around} {E : Value → Shared → Prop} {s : Shared} {env : Env}
/-- the value is a fault, and it is told -/
def RaisedF (E : Value → Shared → Prop) (v : Value) (s₁ : Shared) : Prop := ∃ e t dx, v = .ref e ∧ s₁.heap.get? 44 = some clsSF ∧ s₁.heap.get? e = some (excObjD t dx) ∧ E (.ref e) s₁
theorem Raise_expr {e₀ : Expr} {pos : Pos} {Q : Flow → Shared → Prop} (hh : A.handled = none)
    (h : wpAny (model prog w) A (eval e₀ env) (RaisedF E) E s) :
    wpAny (model prog w) A (exec (.Raise (some e₀) none pos) env) Q E s := by
  rw [arm_exec_Raise]
  first
    | exact wpAny_bind (wpAny_standAt (raiseStmt_fault hh (wpAny_bind (wpAny_mono h (fun v s₃ h₃ => wpAny_bind (wpAny_standAt (wpAny_pure h₃))) fun _ _ x => x))))
    | (simp only [evalOpt, Option.map]; exact wpAny_bind (wpAny_standAt (raiseStmt_fault hh (wpAny_bind (wpAny_mono h (fun v s₃ h₃ => wpAny_bind (wpAny_standAt (wpAny_pure h₃))) fun _ _ x => x)))))
/-- what is told of a raise -/
def Faults (G : Heap) (fr : List Env) (s : Shared) (E : Value → Shared → Prop) : Prop := ∀ h' e a0 tk, Heap.FlyingW G fr e (.ref 44) a0 h' → E (.ref e) { s with heap := h', toks := tk }
end
theorem fault_end {M : Model} {w : World} {A : Around} {G g h : Heap} {fr : List Env} {env : Env} {L e : Addr} {m : Str → Option Value} {s₁ : Shared} {E' E2 : Value → Shared → Prop} {Q : Unit → Shared → Prop}
    (hE : wpAny M (A.deeper env) (leaving env (.ref e)) Q E2 s₁ → E' (.ref e) s₁) (X : (hd.heap_39 w.params).In g) (B : Below A G fr g) (hf : env.frame = some L) (hk : env.scope.kind = .function) (hm : MadeF h s₁.heap e) (F : Fr g L h m)
    (hR : ∀ h' a0, Heap.FlyingW G fr e (.ref 44) a0 h' → Q () { s₁ with heap := h' }) : RaisedF E' (.ref e) s₁ := by
  obtain ⟨t, dx, ht⟩ := hm.there
  have B' := pushX B F hf hk
  exact ⟨e, t, dx, rfl, sf_cls ((X.keeps F.keep).keeps hm.keeps), ht, hE (leave_fault B'.stack hf B'.stays B'.frames hm hR)⟩
theorem sf_use {w : World} {A : Around} {G : Heap} {s : Shared} {msg : Str} {tr : Tok} {Q : Value → Shared → Prop} {E : Value → Shared → Prop} (S : Site w A G s.heap 6 41)
    (hq : ∀ h' e tk', MadeF s.heap h' e → Q (.ref e) { s with heap := h', toks := tk' }) : wpAny (model PySem.Challenge.rw_nu0004_01.row.prog w) A (call (.ref 44) [.str msg tr]) Q E s :=
  sf_call (h := s.heap) (g := s.gens) (d := s.drawn) (tk := s.toks) (os := s.os) S hq
end Mine
end
section
open PySem PySem.W PySem.Calls PyProof.Rows
set_option Elab.async false
set_option linter.unusedVariables false
set_option maxRecDepth 100000
namespace Mine
theorem ba_mro : mroOf (.type "bytearray") = pure [.type "bytearray", .type "object"] := by rw [mroOf_type]; kernel_rfl
theorem ba_lookup_new : typeLookup (.type "bytearray") "__new__" = pure (some (.builtin "bytearray.__new__")) := by rw [typeLookup_type, builtinLookup_eq_fast]; kernel_rfl
theorem ba_slot_init : Slot "bytearray" "__init__" "bytearray.__init__" :=
  .of (owner := "bytearray") (n := "__init__") (by rw [typeLookup_type, builtinLookup_eq_fast]; kernel_rfl) (by decide +kernel) (by decide +kernel) (by decide +kernel)
    (by first | exact .inl (by decide +kernel) | exact .inr (by decide +kernel)) (by rw [isSubtype_type]; kernel_rfl)
theorem ba_called : TypeCalled "bytearray" "bytearray.__new__" "bytearray.__init__" :=
  ⟨by decide +kernel, by decide +kernel, ⟨_, _, ba_mro⟩, madeBy_type ba_mro ba_lookup_new (by decide +kernel), by decide +kernel, by rw [isSubtype_type]; kernel_rfl, ba_slot_init⟩
theorem ba_entry_new : entryFor table "bytearray.__new__" = some Builtin.«list.__new__» := entryFor_alias (id' := "list.__new__") (by kernel_rfl) rfl (by decide +kernel) (by kernel_rfl)
theorem ba_plain_new : plainId "bytearray.__new__" = true := by decide +kernel
theorem ba_entry_init : entryFor table "bytearray.__init__" = some Builtin.«bytearray.__init__» := by first | exact entryFor_of_fast (by kernel_rfl) | exact entryFor_of_tree (by kernel_rfl)
theorem ba_newCall (l : List Value) : checkBuiltinCall "bytearray.__new__" ⟨.type "bytearray" :: l, []⟩ = pure () := by kernel_rfl
theorem ba_typeCall0 : checkTypeCall "bytearray" ⟨[], []⟩ = pure () := by kernel_rfl
theorem ba_typeCall1 (a : Value) : checkTypeCall "bytearray" ⟨[a], []⟩ = pure () := by kernel_rfl
set_option maxRecDepth 1000000 in
set_option maxHeartbeats 4000000 in
theorem owner_ba_new : ("bytearray.__new__".splitOn ".__new__").headD "" = "bytearray" := by simp +decide [String.splitOn, String.splitOnAux]
theorem sub_ba_self : isSubtype (.type "bytearray") (.type "bytearray") = pure true := by rw [isSubtype_type]; kernel_rfl
noncomputable abbrev baObj (b : Array UInt8) : Obj := { cls := .type "bytearray", data := .bytearray b }
section
variable {prog : Program} {w : World} {A : Around} {E : Value → Shared → Prop} {s : Shared}
theorem code_ba_new (l : List Value) {Q₁ : Value → Shared → Prop}
    (h : Q₁ (.ref s.heap.objs.size) { s with heap := s.heap.push (baObj #[]) }) :
    codeAny (model prog w) A (.call (.builtin "bytearray.__new__") ⟨.type "bytearray" :: l, []⟩) (wants Q₁ E) s := by
  refine codeAny_of_tree ?_
  show wpAny _ A.in1 (do checkBuiltinCall "bytearray.__new__" ⟨.type "bytearray" :: l, []⟩; again (.builtin "bytearray.__new__" ⟨.type "bytearray" :: l, []⟩)) _ _ s
  refine wpAny_bind (wpAny_of_eq (ba_newCall l) (wpAny_pure ⟨plainId_quiet ba_plain_new _, codeAny_builtin_stack ba_entry_new rfl fun p st => ?_⟩))
  rw [Around.under_plainId ba_plain_new _]
  have hsub := sub_ba_self
  have hown := owner_ba_new
  obtain ⟨hp, g, d, tk, os⟩ := s
  simp only [hown]
  wp_walk
  exact h
theorem callS_ba {args : List Value} {Q Q₁ : Value → Shared → Prop} (hct : checkTypeCall "bytearray" ⟨args, []⟩ = pure ())
    (hnext : ∀ obj s₁, Q₁ obj s₁ → s₁.TypeIs obj "bytearray" ∧ wpS (model prog w) A.in1 (call (.builtin "bytearray.__init__") (obj :: args) []) (fun r s₂ => r = .none ∧ Q obj s₂) E s₁)
    (h : Q₁ (.ref s.heap.objs.size) { s with heap := s.heap.push (baObj #[]) }) :
    wpS (model prog w) A (call (.type "bytearray") args) Q E s := by
  refine wpS_call (codeS_of_tree rfl ?_)
  show wpS _ _ (callAny (.type "bytearray") _) _ _ _
  refine wpS_pure ⟨Code.quiet_builtin _ (by decide +kernel), codeS_builtin rfl F.entry_type_call ?_⟩
  rw [Around.under_plain (weight_type_call_type "bytearray" args []) rfl]
  unfold Builtin.«type.__call__»
  refine wpS_if_false rfl ?_
  refine wpS_if_false ba_called.canCreate ?_
  refine wpS_step (wpAny_of_eq hct ?_)
  refine wpS_step (wpAny_of_eq ba_mro ?_)
  refine wpS_if_false rfl ?_
  refine wpS_step (wpAny_of_eq ba_called.made ?_)
  refine wpS_step (wpAny_pure ?_)
  refine wpS_bind (wpS_holding (wpS_of_any (wpAny_call (codeAny_mono (code_ba_new args (Q₁ := Q₁) (E := E) h) fun r s₁ hr => ?_))))
  cases r with
  | error e => exact hr
  | ok fl =>
    cases fl with
    | ret obj =>
      obtain ⟨hT, hI⟩ := hnext _ _ hr
      refine wpS_step (wpAny_isInstance hT sub_ba_self ?_)
      refine wpS_if_false rfl ?_
      refine wpS_bind (wpS_holding ?_)
      simp only [callSpecial?]
      refine wpS_step (wpAny_specialOf hT ba_slot_init.lookup ?_)
      simp only [ba_slot_init.bind]
      refine wpS_holding (wpS_step (wpAny_pure (wpS_bind (wpS_mono hI (fun r s₂ hr => ?_) fun _ _ x => x))))
      obtain ⟨rfl, hq⟩ := hr
      refine wpS_pure ?_
      refine wpS_if_false rfl ?_
      exact wpS_pure hq
    | _ => exact hr.elim

theorem callS_entry {T : String} {name : Str} {id : String} {b : Builtin} {self : Value} {rest : List Value} {Q : Value → Shared → Prop} (h : Slot T name id) (hT : s.TypeIs self T)
    (hb : entryFor table id = some b) (ok : okCode (.builtin id ⟨self :: rest, []⟩) = true)
    (hc : wpS (model prog w) A.in1 (b ⟨self :: rest, []⟩) (fun fin s' => match fin with
        | .done f => ∃ v, f = .ret v ∧ Q v s'
        | .again c' => c'.quiet = true ∧ codeS (model prog w) A c' (wants Q E) s') E s)
    (ha : argsOk id ⟨self :: rest, []⟩ := by rfl) :
    wpS (model prog w) A (call (.builtin id) (self :: rest)) Q E s := by
  refine wpS_call (codeS_of_tree rfl ?_)
  show wpS _ A.in1 (do checkBuiltinCall id ⟨self :: rest, []⟩; again (.builtin id ⟨self :: rest, []⟩)) _ _ s
  refine wpS_step (h.check _ _ _ _ _ _ _ _ hT ha ?_)
  refine wpS_pure (a := Fin.again _) ⟨plainId_quiet h.plain _, codeS_builtin ok hb ?_⟩
  rw [Around.under_plainId h.plain _]
  refine wpS_mono hc (fun fin s' h' => ?_) fun _ _ h' => h'
  cases fin with
  | done f => obtain ⟨v, rfl, hv⟩ := h'; exact hv
  | again c => exact h'
end
end Mine
end
section
open PySem PySem.W PySem.Calls PyProof.Rows
set_option Elab.async false
set_option linter.unusedVariables false
set_option linter.deprecated false
set_option maxRecDepth 100000
namespace Mine
theorem ba_slot_rel : typeLookup (.type "bytearray") (Str.ofString "__release_buffer__") = pure (some (.builtin "bytearray.__release_buffer__")) := by rw [typeLookup_type, builtinLookup_eq_fast]; kernel_rfl
theorem ba_slot_buf : typeLookup (.type "bytearray") (Str.ofString "__buffer__") = pure (some (.builtin "bytearray.__buffer__")) := by rw [typeLookup_type, builtinLookup_eq_fast]; kernel_rfl
theorem by_slot_buf : typeLookup (.type "bytes") (Str.ofString "__buffer__") = pure (some (.builtin "bytes.__buffer__")) := by rw [typeLookup_type, builtinLookup_eq_fast]; kernel_rfl
theorem by_slot_rel : typeLookup (.type "bytes") (Str.ofString "__release_buffer__") = pure none := by rw [typeLookup_type, builtinLookup_eq_fast]; kernel_rfl
theorem ba_own_rel : (!"bytearray.__release_buffer__".endsWith ("." ++ "__release_buffer__")) = false := by decide +kernel
theorem ba_own_buf : (!"bytearray.__buffer__".endsWith ("." ++ "__buffer__")) = false := by decide +kernel
theorem by_own_buf : (!"bytes.__buffer__".endsWith ("." ++ "__buffer__")) = false := by decide +kernel
theorem ba_drop_rel : isSubtype (.type "bytearray") (.type ("bytearray.__release_buffer__".dropRight ("__release_buffer__".length + 1))) = pure true := by
  have e : "bytearray.__release_buffer__".dropRight ("__release_buffer__".length + 1) = "bytearray" := by decide +kernel
  rw [e]; exact sub_ba_self
theorem ba_drop_buf : isSubtype (.type "bytearray") (.type ("bytearray.__buffer__".dropRight ("__buffer__".length + 1))) = pure true := by
  have e : "bytearray.__buffer__".dropRight ("__buffer__".length + 1) = "bytearray" := by decide +kernel
  rw [e]; exact sub_ba_self
theorem by_drop_buf : isSubtype (.type "bytes") (.type ("bytes.__buffer__".dropRight ("__buffer__".length + 1))) = pure true := by
  have e : "bytes.__buffer__".dropRight ("__buffer__".length + 1) = "bytes" := by decide +kernel
  rw [e]; rw [isSubtype_type]; kernel_rfl
section
variable {prog : Program} {w : World} {A : Around} {E : Value → Shared → Prop} {s : Shared}
theorem wpAny_slotOwn {self : Value} {T : String} {Q : Bool → Shared → Prop} (hT : s.TypeIs self T) {name id : String} (hl : typeLookup (.type T) (Str.ofString name) = pure (some (.builtin id)))
    (he : (!id.endsWith ("." ++ name)) = false) (hd : isSubtype (.type T) (.type (id.dropRight (name.length + 1))) = pure true) (h : Q true s) : wpAny (model prog w) A (Builtin.Bytes.slotIsOwn self name) Q E s := by
  unfold Builtin.Bytes.slotIsOwn
  refine wpAny_bind (wpAny_specialOf hT hl ?_)
  refine bm_if_false he ?_
  exact wpAny_isInstance hT hd h
theorem wpAny_ownRelease_ba {self : Value} {Q : Bool → Shared → Prop} (hT : s.TypeIs self "bytearray") (h : Q false s) : wpAny (model prog w) A (Builtin.Bytes.ownRelease self) Q E s := by
  unfold Builtin.Bytes.ownRelease
  exact wpAny_bind (wpAny_slotOwn hT ba_slot_rel ba_own_rel ba_drop_rel (wpAny_pure h))
theorem wpAny_ownRelease_by {self : Value} {Q : Bool → Shared → Prop} (hT : s.TypeIs self "bytes") (h : Q false s) : wpAny (model prog w) A (Builtin.Bytes.ownRelease self) Q E s := by
  unfold Builtin.Bytes.ownRelease Builtin.Bytes.slotIsOwn
  exact wpAny_bind (wpAny_bind (wpAny_specialOf hT by_slot_rel (wpAny_pure (wpAny_pure h))))
theorem ba_type {a : Addr} {b : Array UInt8} (h : s.heap.get? a = some (baObj b)) : s.TypeIs (.ref a) "bytearray" := ⟨_, h, rfl⟩
theorem wpAny_payload_ba {a : Addr} {b : Array UInt8} {Q : Array UInt8 → Shared → Prop} (ha : s.heap.get? a = some (baObj b)) (h : Q b s) : wpAny (model prog w) A (Builtin.Bytes.payload (.ref a)) Q E s := by
  unfold Builtin.Bytes.payload Builtin.Bytes.payload?
  refine wpAny_bind (wpAny_bind (wpAny_load ha ?_))
  exact wpAny_pure (wpAny_pure h)
theorem wpAny_payload_by {b : Array UInt8} {t : Tok} {Q : Array UInt8 → Shared → Prop} (h : Q b s) : wpAny (model prog w) A (Builtin.Bytes.payload (.bytes b t)) Q E s := by
  unfold Builtin.Bytes.payload Builtin.Bytes.payload?
  exact wpAny_bind (wpAny_pure (wpAny_pure h))
theorem wpAny_buffer_ba {id : String} {full : Bool} {a : Addr} {b : Array UInt8} {Q : Option (Array UInt8) → Shared → Prop} (ha : s.heap.get? a = some (baObj b)) (h : Q (some b) s) : wpAny (model prog w) A (Builtin.Bytes.buffer? id (.ref a) full) Q E s := by
  unfold Builtin.Bytes.buffer?
  refine wpAny_bind (wpAny_specialOf (ba_type ha) ba_slot_buf ?_)
  refine wpAny_bind (wpAny_slotOwn (ba_type ha) ba_slot_buf ba_own_buf ba_drop_buf ?_)
  refine bm_if_false rfl ?_
  refine wpAny_bind (wpAny_specialOf (ba_type ha) ba_slot_buf ?_)
  refine wpAny_bind (wpAny_ownRelease_ba (ba_type ha) ?_)
  refine bm_if_false rfl ?_
  exact wpAny_bind (wpAny_payload_ba ha (wpAny_pure h))
theorem wpAny_buffer_by {id : String} {full : Bool} {b : Array UInt8} {t : Tok} {Q : Option (Array UInt8) → Shared → Prop} (h : Q (some b) s) : wpAny (model prog w) A (Builtin.Bytes.buffer? id (.bytes b t) full) Q E s := by
  have hT : s.TypeIs (.bytes b t) "bytes" := typeIs_bytes s b t
  unfold Builtin.Bytes.buffer?
  refine wpAny_bind (wpAny_specialOf hT by_slot_buf ?_)
  refine wpAny_bind (wpAny_slotOwn hT by_slot_buf by_own_buf by_drop_buf ?_)
  refine bm_if_false rfl ?_
  refine wpAny_bind (wpAny_specialOf hT by_slot_buf ?_)
  refine wpAny_bind (wpAny_ownRelease_by hT ?_)
  refine bm_if_false rfl ?_
  exact wpAny_bind (wpAny_payload_by (wpAny_pure h))
theorem wpAny_takeBuffer_by {id : String} {b : Array UInt8} {t : Tok} {Q : Option (Array UInt8 × Option Value) → Shared → Prop} (h : Q (some (b, none)) s) : wpAny (model prog w) A (Builtin.Bytes.takeBufferQuiet? id (.bytes b t) 0) Q E s := by
  have hT : s.TypeIs (.bytes b t) "bytes" := typeIs_bytes s b t
  unfold Builtin.Bytes.takeBufferQuiet? Builtin.Bytes.takeBuffer?
  refine wpAny_bind (wpAny_attempt ?_)
  refine wpAny_bind (wpAny_specialOf hT by_slot_buf ?_)
  refine wpAny_bind (wpAny_slotOwn hT by_slot_buf by_own_buf by_drop_buf ?_)
  refine bm_if_false rfl ?_
  refine wpAny_bind (wpAny_specialOf hT by_slot_buf ?_)
  refine wpAny_bind (wpAny_buffer_by (wpAny_pure (wpAny_pure ?_)))
  exact h
theorem wpAny_write_ba {a : Addr} {b : Array UInt8} {f : Array UInt8 → Array UInt8} {Q : Unit → Shared → Prop} (ha : s.heap.get? a = some (baObj b)) (hz : (f b).size ≤ sizeLine)
    (h : ∀ h', h'.get? a = some (baObj (f b)) → Heap.SameBut a s.heap h' → Q () { s with heap := h' }) : wpAny (model prog w) A (Builtin.Bytes.write (.ref a) f) Q E s := by
  unfold Builtin.Bytes.write updateBytearray
  refine wpAny_bind (wpAny_load ha ?_)
  refine wpAny_bind (wpAny_update ha ?_)
  have h2 : (s.heap.update a (Obj.mapBytearray f)).get? a = some (baObj (f b)) := Heap.get?_update_self (Obj.mapBytearray f) ha rfl
  refine wpAny_lookBehind h2 ?_ (h _ h2 (Heap.SameBut.update ..))
  show (if (f b).size > sizeLine then some "bytearray:memory" else none) = none
  rw [if_neg (by omega)]
theorem wpS_notExported {a : Addr} {b : Array UInt8} {Q : Bool → Shared → Prop} (ha : s.heap.get? a = some (baObj b)) (h : Q false s) :
    wpS (model prog w) A (Builtin.Bytes.exported (Value.ref a) <||> do
            let __do_lift ← Builtin.Bytes.exportsOf (Value.ref a)
            pure (decide (__do_lift > 0))) Q E s := by
  refine wpS_bind (wpS_exported ?_)
  show wpS _ _ (Builtin.Bytes.exportsOf (Value.ref a) >>= _) _ _ _
  refine wpS_step ?_
  unfold Builtin.Bytes.exportsOf
  refine wpAny_bind (wpAny_load ha ?_)
  exact wpAny_pure (wpS_pure h)
theorem wpS_checkResize {a : Addr} {b : Array UInt8} {Q : Unit → Shared → Prop} (ha : s.heap.get? a = some (baObj b)) (h : Q () s) : wpS (model prog w) A (Builtin.Bytes.checkResize (.ref a)) Q E s := by
  unfold Builtin.Bytes.checkResize
  refine wpS_bind (wpS_notExported ha ?_)
  exact wpS_if_false rfl (wpS_pure h)
theorem ba_bind0 : Builtin.Bytes.bindOptional "bytearray.__init__" "bytearray" ["source", "encoding", "errors"] [] [] = pure [none, none, none] := by kernel_rfl
theorem ba_bind1 (v : Value) : Builtin.Bytes.bindOptional "bytearray.__init__" "bytearray" ["source", "encoding", "errors"] [v] [] = pure [some v, none, none] := by kernel_rfl
theorem ba_init_ok0 (a : Value) : argsOk "bytearray.__init__" ⟨[a], []⟩ := by unfold argsOk; kernel_rfl
theorem ba_init_ok1 (a b : Value) : argsOk "bytearray.__init__" ⟨[a, b], []⟩ := by unfold argsOk; kernel_rfl
theorem callS_ba0 {Q : Value → Shared → Prop}
    (h : ∀ h' , h'.get? s.heap.objs.size = some (baObj #[]) → s.heap.StaysIn h' → Q (.ref s.heap.objs.size) { s with heap := h' }) :
    wpS (model prog w) A (call (.type "bytearray") []) Q E s := by
  refine callS_ba (Q₁ := fun obj s₁ => obj = .ref s.heap.objs.size ∧ s₁ = { s with heap := s.heap.push (baObj #[]) }) ba_typeCall0 ?_ ⟨rfl, rfl⟩
  rintro obj s₁ ⟨rfl, rfl⟩
  have ha : (s.heap.push (baObj #[])).get? s.heap.objs.size = some (baObj #[]) := Heap.get?_push_size _ rfl
  refine ⟨⟨_, ha, rfl⟩, callS_entry ba_slot_init ⟨_, ha, rfl⟩ ba_entry_init rfl ?_ (ba_init_ok0 _)⟩
  unfold Builtin.«bytearray.__init__»
  refine wpS_step (wpAny_ownRelease_ba ⟨_, ha, rfl⟩ ?_)
  refine wpS_if_false rfl ?_
  refine wpS_step (wpAny_of_eq ba_bind0 ?_)
  refine wpS_step (wpAny_of_eq (a := ()) rfl ?_)
  refine wpS_step (wpAny_of_eq (a := ()) rfl ?_)
  refine wpS_bind (wpS_notExported ha ?_)
  refine wpS_if_false rfl ?_
  refine wpS_step (wpAny_write_ba ha (Nat.zero_le _) fun h' h1 h2 => ?_)
  refine wpS_step (wpAny_of_eq (a := ()) rfl ?_)
  refine wpS_pure (a := Fin.done (.ret .none)) ⟨_, rfl, rfl, h h' h1 fun b o e => ?_⟩
  exact h2.extBut b o (Nat.ne_of_lt (Heap.lt_size e)) (Heap.get?_push_of_some _ e)
theorem ints_take : ∀ {vs : List Value} {ns : List Int}, IntsAre vs ns → (∀ n ∈ ns, 0 ≤ n ∧ n < 256) →
    (vs.takeWhile fun x => match x with | Value.int i _ => decide (0 ≤ i) && decide (i < 256) | _ => false) = vs ∧
    (vs.filterMap fun x => match x with | Value.int i _ => some i.toNat.toUInt8 | _ => none) = ns.map fun n => n.toNat.toUInt8
  | _, _, .nil, _ => ⟨rfl, rfl⟩
  | _, _, .cons n t h, hr => by
    obtain ⟨h0, h1⟩ := hr n (.head _)
    obtain ⟨e1, e2⟩ := ints_take h fun x hx => hr x (.tail _ hx)
    refine ⟨?_, ?_⟩
    · rw [List.takeWhile_cons, e1]; simp [h0, h1]
    · rw [List.filterMap_cons, e2]; rfl
theorem callS_ba1 {l : Addr} {vs : List Value} {ns : List Int} {n : Nat} {Q : Value → Shared → Prop} (hl : s.heap.get? l = some (listOf vs.toArray n)) (hi : IntsAre vs ns) (hr : ∀ n ∈ ns, 0 ≤ n ∧ n < 256) (hz : ns.length ≤ 1000000)
    (h : ∀ h' , h'.get? s.heap.objs.size = some (baObj (byteArr ns)) → s.heap.StaysIn h' → Q (.ref s.heap.objs.size) { s with heap := h' }) :
    wpS (model prog w) A (call (.type "bytearray") [.ref l]) Q E s := by
  refine callS_ba (Q₁ := fun obj s₁ => obj = .ref s.heap.objs.size ∧ s₁ = { s with heap := s.heap.push (baObj #[]) }) (ba_typeCall1 _) ?_ ⟨rfl, rfl⟩
  rintro obj s₁ ⟨rfl, rfl⟩
  have ha : (s.heap.push (baObj #[])).get? s.heap.objs.size = some (baObj #[]) := Heap.get?_push_size _ rfl
  have hlt : l ≠ s.heap.objs.size := Nat.ne_of_lt (Heap.lt_size hl)
  refine ⟨⟨_, ha, rfl⟩, callS_entry ba_slot_init ⟨_, ha, rfl⟩ ba_entry_init rfl ?_ (ba_init_ok1 _ _)⟩
  unfold Builtin.«bytearray.__init__»
  refine wpS_step (wpAny_ownRelease_ba ⟨_, ha, rfl⟩ ?_)
  refine wpS_if_false rfl ?_
  refine wpS_step (wpAny_of_eq (ba_bind1 _) ?_)
  refine wpS_step (wpAny_of_eq (a := ()) rfl ?_)
  refine wpS_step (wpAny_of_eq (a := ()) rfl ?_)
  refine wpS_bind (wpS_notExported ha ?_)
  refine wpS_if_false rfl ?_
  refine wpS_step (wpAny_write_ba ha (Nat.zero_le _) fun h' h1 h2 => ?_)
  have hl' : h'.get? l = some (listOf vs.toArray n) := (h2.2 l hlt).trans (Heap.get?_push_of_some _ hl)
  have hT : ({ s with heap := h' } : Shared).TypeIs (.ref l) "list" := ⟨_, hl', rfl⟩
  refine wpS_step (wpAny_bind ?_)
  show wpAny _ _ (load l >>= _) _ _ _
  refine wpAny_bind (wpAny_load hl' ?_)
  refine wpAny_pure (wpAny_pure ?_)
  refine wpS_if_false rfl ?_
  refine wpS_step (wpAny_of_eq (a := ()) rfl ?_)
  refine wpS_step (wpAny_specialOf hT F.bm_no_index ?_)
  refine wpS_if_false rfl ?_
  refine wpS_step ?_
  unfold Builtin.Bytes.buffer?
  refine wpAny_bind (wpAny_specialOf hT F.bm_no_buffer ?_)
  refine wpAny_bind (wpAny_specialOf hT F.bm_no_buffer ?_)
  refine wpAny_pure ?_
  refine wpS_step (wpAny_typeOf hT ?_)
  refine wpS_if_true (by decide) ?_
  refine wpS_step (wpAny_seqItems hl' rfl ?_)
  obtain ⟨e1, e2⟩ := ints_take hi hr
  have hn : vs.toArray[vs.length]? = none := by simp
  dsimp only
  generalize hg : List.takeWhile _ vs = good
  obtain rfl : vs = good := e1.symm.trans hg
  generalize hf : List.filterMap _ vs = bs
  obtain rfl : (ns.map fun n => n.toNat.toUInt8) = bs := e2.symm.trans hf
  rw [hn]
  refine wpS_step (wpAny_rule ?_)
  refine wpS_step (wpAny_write_ba h1 (by simp; rw [sizeLine_eq]; omega) fun h'' h3 h4 => ?_)
  refine wpS_pure (a := Fin.done (.ret .none)) ⟨_, rfl, rfl, h h'' h3 fun b o e => ?_⟩
  have hb : b ≠ s.heap.objs.size := Nat.ne_of_lt (Heap.lt_size e)
  exact h4.extBut b o hb (h2.extBut b o hb (Heap.get?_push_of_some _ e))
end
end Mine
end
section
open PySem PySem.W PySem.Calls PyProof.Rows
set_option Elab.async false
set_option linter.unusedVariables false
set_option linter.deprecated false
set_option maxRecDepth 100000
namespace Mine
theorem ba_slot_ext : Slot "bytearray" (Str.ofString "extend") "bytearray.extend" :=
  .of (owner := "bytearray") (n := "extend") (by rw [typeLookup_type, builtinLookup_eq_fast]; kernel_rfl) (by decide +kernel) (by decide +kernel) (by decide +kernel)
    (by first | exact .inl (by decide +kernel) | exact .inr (by decide +kernel)) (by rw [isSubtype_type]; kernel_rfl)
theorem ba_entry_ext : entryFor table "bytearray.extend" = some Builtin.«bytearray.extend» := by first | exact entryFor_of_fast (by kernel_rfl) | exact entryFor_of_tree (by kernel_rfl)
theorem ba_entry_extL : entryFor table "bytearray.extend.loop" = some Builtin.«bytearray.extend.loop» := by first | exact entryFor_of_fast (by kernel_rfl) | exact entryFor_of_tree (by kernel_rfl)
theorem ba_entry_extE : entryFor table "bytearray.extend.end" = some Builtin.«bytearray.extend.end» := by first | exact entryFor_of_fast (by kernel_rfl) | exact entryFor_of_tree (by kernel_rfl)
theorem ba_plain_extL : plainId "bytearray.extend.loop" = true := by decide +kernel
theorem ba_plain_extE : plainId "bytearray.extend.end" = true := by decide +kernel
theorem ba_ext_ok (a b : Value) : argsOk "bytearray.extend" ⟨[a, b], []⟩ := by unfold argsOk; kernel_rfl
theorem ba_plainAttrs : PlainAttrs "bytearray" :=
  ⟨⟨"bytearray.__getattribute__", by rw [typeLookup_type, builtinLookup_eq_fast]; kernel_rfl, by decide +kernel⟩, by rw [typeLookup_type, builtinLookup_eq_fast]; kernel_rfl⟩
theorem ba_ext_type : typeOf (.builtin "bytearray.extend") = pure (.type "method_descriptor") := by kernel_rfl
section
variable {prog : Program} {w : World} {A : Around} {E : Value → Shared → Prop} {s : Shared}
theorem ba_ext_method {a : Addr} {b : Array UInt8} {pl : Sem Bool} {Q : Value × List Value → Shared → Prop} (ha : s.heap.get? a = some (baObj b))
    (h : Q (.builtin "bytearray.extend", [.ref a]) s) : wpAny (model prog w) A (getMethod (.ref a) (Str.ofString "extend") pl) Q E s :=
  getMethod_builtin (ba_type ha) ba_plainAttrs ba_slot_ext ba_ext_type (fun x e => by cases e; exact ⟨_, ha, rfl⟩) h
theorem wpS_addAtEnd {a : Addr} {b more : Array UInt8} {Q : Fin → Shared → Prop} (ha : s.heap.get? a = some (baObj b)) (hz : (b ++ more).size ≤ sizeLine)
    (h : ∀ h', h'.get? a = some (baObj (b ++ more)) → Heap.SameBut a s.heap h' → Q (.done (.ret .none)) { s with heap := h' }) :
    wpS (model prog w) A (do
      if !more.isEmpty then Builtin.Bytes.checkResize (.ref a)
      Builtin.Bytes.write (.ref a) (· ++ more)
      ret .none) Q E s := by
  have last : wpS (model prog w) A (Builtin.Bytes.write (.ref a) (· ++ more) >>= fun _ => ret .none) Q E s :=
    wpS_step (wpAny_write_ba ha hz fun h' h1 h2 => wpS_pure (h h' h1 h2))
  cases hm : more.isEmpty with
  | true => exact last
  | false => exact wpS_bind (wpS_checkResize ha last)
theorem ext_bytes {a : Addr} {b c : Array UInt8} {t : Tok} {Q : Value → Shared → Prop} (ha : s.heap.get? a = some (baObj b)) (hz : (b ++ c).size ≤ sizeLine)
    (h : ∀ h', h'.get? a = some (baObj (b ++ c)) → Heap.SameBut a s.heap h' → Q .none { s with heap := h' }) :
    wpS (model prog w) A (call (.builtin "bytearray.extend") [.ref a, .bytes c t]) Q E s := by
  refine callS_entry ba_slot_ext (ba_type ha) ba_entry_ext rfl ?_ (ba_ext_ok _ _)
  unfold Builtin.«bytearray.extend»
  refine wpS_step (wpAny_of_eq (a := (Value.ref a, Value.bytes c t)) rfl ?_)
  refine wpS_step (wpAny_specialOf (typeIs_bytes s c t) by_slot_buf ?_)
  refine wpS_if_true rfl ?_
  refine wpS_step (wpAny_rule ?_)
  refine wpS_step (wpAny_payload_ba ha ?_)
  refine wpS_step (wpAny_takeBuffer_by ?_)
  refine wpS_if_true rfl ?_
  exact wpS_addAtEnd ha hz fun h' h1 h2 => ⟨_, rfl, h h' h1 h2⟩
theorem ext_loop {R : Result → Shared → Prop} {l I S a : Addr} {b : Array UInt8} {vs : List Value} {ns : List Int} (hh : A.handled = none) (hi : IntsAre vs ns) (hr : ∀ n ∈ ns, 0 ≤ n ∧ n < 256) (hz : b.size + ns.length ≤ sizeLine)
    (hIS : I ≠ S) (hlI : l ≠ I) (hlS : l ≠ S) (haI : a ≠ I) (haS : a ≠ S) :
    ∀ (k i : Nat) (s : Shared), ns.length - i = k → i ≤ ns.length → s.heap.IsList l vs.toArray → s.heap.IsListIter I l i → s.heap.get? S = some (baObj (byteArr (ns.take i))) → s.heap.get? a = some (baObj b) →
      (∀ h' k', h'.get? a = some (baObj (b ++ byteArr ns)) → (∀ c o, c ≠ I → c ≠ S → c ≠ a → s.heap.get? c = some o → h'.get? c = some o) → R (.ok (.ret .none)) { s with heap := h', toks := k' }) →
      codeS (model prog w) A (.builtin "bytearray.extend.loop" ⟨[.ref a, .ref l, .ref I, .ref S], []⟩) R s := by
  have hlen : vs.length = ns.length := hi.length
  intro k
  induction k with
  | zero =>
    intro i s hk hle hl hit hS ha hR
    have hin : i = ns.length := by omega
    subst hin
    refine codeS_builtin rfl ba_entry_extL ?_
    rw [Around.under_plainId ba_plain_extL _]
    show wpS _ A.in1 (pyNext (.ref I) >>= _) _ _ s
    refine wpS_step (wpAny_pyNext_list_end hh hit hl (by simp [hlen]) fun h' he => ?_)
    refine wpS_pure (a := Fin.again _) ⟨plainId_quiet ba_plain_extE _, ?_⟩
    have hS' : h'.get? S = some (baObj (byteArr ns)) := by have := he S _ (Ne.symm hIS) hS; rwa [List.take_length] at this
    have ha' : h'.get? a = some (baObj b) := he a _ haI ha
    refine codeS_builtin rfl ba_entry_extE ?_
    rw [Around.under_plainId ba_plain_extE _]
    show wpS _ A.in1 (point >>= _) _ _ _
    refine wpS_step (wpAny_point ?_)
    refine wpS_step (wpAny_payload_ba hS' ?_)
    show wpS _ _ (do
      if !(byteArr ns).isEmpty then Builtin.Bytes.checkResize (.ref a)
      Builtin.Bytes.write (.ref a) (· ++ (byteArr ns))
      ret .none) _ _ _
    refine wpS_addAtEnd ha' (by rw [Array.size_append, byteArr_size]; exact hz) fun h2 h3 h4 => ?_
    exact hR h2 _ h3 fun c o c1 c2 c3 e => h4.extBut c o c3 (he c o c1 e)
  | succ k ih =>
    intro i s hk hle hl hit hS ha hR
    have hlt : i < ns.length := by omega
    obtain ⟨x, hx⟩ : ∃ x, vs[i]? = some x := ⟨vs[i]'(by omega), List.getElem?_eq_getElem (by omega)⟩
    obtain ⟨n, t, rfl, hn⟩ := IntsAre.at hi i x hx
    obtain ⟨h0, h1⟩ := hr n (List.mem_of_getElem? hn)
    refine codeS_builtin rfl ba_entry_extL ?_
    rw [Around.under_plainId ba_plain_extL _]
    show wpS _ A.in1 (pyNext (.ref I) >>= _) _ _ s
    refine wpS_step (wpAny_pyNext_list_item (x := .int n t) hit hl (by simpa using hx) fun h' hit' hs => ?_)
    have hS' : h'.get? S = some (baObj (byteArr (ns.take i))) := (hs.2 S (Ne.symm hIS)).trans hS
    have ha' : h'.get? a = some (baObj b) := (hs.2 a haI).trans ha
    refine wpS_step (wpAny_tryCatch (wpAny_holding ?_))
    unfold Builtin.Bytes.byteValue
    refine wpAny_bind (wpAny_of_eq (rfl : asIndex (.int n t) = pure n) ?_)
    refine bm_if_false (by simp only [Bool.or_eq_false_iff, decide_eq_false_iff_not]; omega) ?_
    refine wpAny_pure ?_
    refine wpS_step (wpAny_letGo ?_)
    refine wpS_step (wpAny_write_ba hS' (by rw [Array.size_push, byteArr_size, List.length_take]; omega) fun h2 h3 h4 => ?_)
    rw [← byteArr_take hn] at h3
    refine wpS_pure (a := Fin.again _) ⟨plainId_quiet ba_plain_extL _, ih (i + 1) { s with heap := h2 } (by omega) hlt ?_ ?_ h3 ?_ fun h5 k' h6 h7 => ?_⟩
    · exact (hl.extBut hs.extBut hlI).extBut h4.extBut hlS
    · exact hit'.extBut h4.extBut hIS
    · exact (h4.2 a haS).trans ha'
    · exact hR h5 k' h6 fun c o c1 c2 c3 e => h7 c o c1 c2 c3 (h4.extBut c o c2 (hs.extBut c o c1 e))
theorem ext_list {a l : Addr} {b : Array UInt8} {vs : List Value} {ns : List Int} {nn : Nat} {Q : Value → Shared → Prop} (hh : A.handled = none) (ha : s.heap.get? a = some (baObj b)) (hl : s.heap.get? l = some (listOf vs.toArray nn))
    (hi : IntsAre vs ns) (hr : ∀ n ∈ ns, 0 ≤ n ∧ n < 256) (hz : b.size + ns.length ≤ sizeLine)
    (h : ∀ h' k, h'.get? a = some (baObj (b ++ byteArr ns)) → But [a] s.heap h' → Q .none { s with heap := h', toks := k }) :
    wpS (model prog w) A (call (.builtin "bytearray.extend") [.ref a, .ref l]) Q E s := by
  refine callS_entry ba_slot_ext (ba_type ha) ba_entry_ext rfl ?_ (ba_ext_ok _ _)
  have hol := hl
  have hl : s.heap.IsList l vs.toArray := ⟨_, hol, rfl, nn, rfl⟩
  have hT : s.TypeIs (.ref l) "list" := hl.typeIs
  unfold Builtin.«bytearray.extend»
  refine wpS_step (wpAny_of_eq (a := (Value.ref a, Value.ref l)) rfl ?_)
  refine wpS_step (wpAny_specialOf hT F.bm_no_buffer ?_)
  refine wpS_if_false rfl ?_
  refine wpS_step (wpAny_tryCatch (wpAny_pyIter_list hl ?_))
  have hl₁ : (s.heap.push { cls := .type "list_iterator", data := .fields #[.ref l, .int 0 0] }).IsList l vs.toArray := hl.push _
  have hT₁ : ({ s with heap := s.heap.push { cls := .type "list_iterator", data := .fields #[.ref l, .int 0 0] } } : Shared).TypeIs (.ref l) "list" := Heap.IsList.typeIs (s := { s with heap := s.heap.push { cls := .type "list_iterator", data := .fields #[.ref l, .int 0 0] } }) hl₁
  refine wpS_step (wpAny_holding ?_)
  unfold Builtin.Bytes.lengthHint
  refine wpAny_bind (wpAny_specialOf hT₁ slot_list_len.lookup ?_)
  dsimp only
  rw [F.bm_split]
  dsimp only
  refine wpAny_bind (wpAny_isInstance hT₁ F.bm_sub_list ?_)
  refine bm_if_false rfl ?_
  refine bm_if_true (by decide +kernel) ?_
  refine wpAny_pure ?_
  refine wpS_step ?_
  unfold Builtin.Bytes.newBytearray
  refine wpAny_newObj_type ?_ (Nat.zero_le _)
  have hI : ((s.heap.push { cls := .type "list_iterator", data := .fields #[.ref l, .int 0 0] }).push (baObj #[])).IsListIter s.heap.objs.size l 0 :=
    ⟨_, Heap.get?_push_of_some _ (Heap.get?_push_size _ rfl), rfl, rfl⟩
  have hlt : l < s.heap.objs.size := Heap.lt_size hol
  have hat : a < s.heap.objs.size := Heap.lt_size ha
  have hsz : (s.heap.push { cls := .type "list_iterator", data := .fields #[.ref l, .int 0 0] }).objs.size = s.heap.objs.size + 1 := Heap.size_push _ _
  have ne1 : s.heap.objs.size ≠ (s.heap.push { cls := .type "list_iterator", data := .fields #[.ref l, .int 0 0] }).objs.size := by rw [hsz]; exact Nat.ne_of_lt (Nat.lt_succ_self _)
  have main := ext_loop (prog := prog) (w := w) (A := A) (R := wants Q E) (l := l) (a := a) (b := b) (I := s.heap.objs.size) (S := (s.heap.push { cls := .type "list_iterator", data := .fields #[.ref l, .int 0 0] }).objs.size) hh hi hr hz ne1 (Nat.ne_of_lt hlt) (by rw [hsz]; exact Nat.ne_of_lt (Nat.lt_succ_of_lt hlt)) (Nat.ne_of_lt hat) (by rw [hsz]; exact Nat.ne_of_lt (Nat.lt_succ_of_lt hat))
    ns.length 0 { s with heap := (s.heap.push { cls := .type "list_iterator", data := .fields #[.ref l, .int 0 0] }).push (baObj #[]) } rfl (Nat.zero_le _) (hl₁.push _) hI (Heap.get?_push_size _ rfl) (Heap.get?_push_of_some _ (Heap.get?_push_of_some _ ha))
    fun h' k h1 h2 => h h' k h1 fun c o e hc => h2 c o (Nat.ne_of_lt (Heap.lt_size e)) (by rw [hsz]; exact Nat.ne_of_lt (Nat.lt_succ_of_lt (Heap.lt_size e))) (fun x => hc (by rw [x]; exact .head _)) (Heap.get?_push_of_some _ (Heap.get?_push_of_some _ e))
  exact wpS_pure (a := Fin.again _) ⟨plainId_quiet ba_plain_extL _, main⟩
end
end Mine
end
section
open PySem PySem.W PySem.Calls PyProof.Rows
set_option Elab.async false
set_option linter.unusedVariables false
set_option linter.deprecated false
set_option maxRecDepth 100000
namespace Mine
open Builtin
theorem ba_no_bytes : typeLookup (.type "bytearray") "__bytes__" = pure none := by rw [typeLookup_type, builtinLookup_eq_fast]; kernel_rfl
theorem ba_no_index : typeLookup (.type "bytearray") "__index__" = pure none := by rw [typeLookup_type, builtinLookup_eq_fast]; kernel_rfl
section
variable {prog : Program} {w : World} {A : Around} {E : Value → Shared → Prop} {s : Shared}
theorem ba_bytes_new {a : Addr} {b : Array UInt8} {Q : Value → Shared → Prop} (ha : s.heap.get? a = some (baObj b)) (hz : b.size ≤ sizeLine)
    (hQ : ∀ t k, Q (.bytes b t) { s with toks := k }) :
    codeAny (model prog w) A (.call (.builtin "bytes.__new__") ⟨[.type "bytes", .ref a], []⟩) (wants Q E) s := by
  refine codeAny_of_tree ?_
  show wpAny _ A.in1 (do checkBuiltinCall "bytes.__new__" ⟨[.type "bytes", .ref a], []⟩; again (.builtin "bytes.__new__" ⟨[.type "bytes", .ref a], []⟩)) _ _ s
  refine wpAny_bind (wpAny_of_eq (F.bm_newCall _) (wpAny_pure ⟨plainId_quiet F.bm_plain _, codeAny_builtin F.bm_entry ?_⟩))
  rw [Around.under_plainId F.bm_plain _]
  have hT : s.TypeIs (.ref a) "bytearray" := ba_type ha
  unfold Builtin.«bytes.__new__»
  refine wpAny_bind (wpAny_of_eq (a := true) rfl ?_)
  refine bm_if_false rfl ?_
  refine wpAny_bind (wpAny_of_eq F.bm_sub ?_)
  refine bm_if_false rfl ?_
  refine wpAny_bind (wpAny_of_eq (F.bm_bind _) ?_)
  refine wpAny_bind (wpAny_of_eq (a := ()) rfl ?_)
  refine wpAny_bind (wpAny_of_eq (a := ()) rfl ?_)
  refine bm_if_false rfl ?_
  refine wpAny_bind (wpAny_specialOf hT ba_no_bytes ?_)
  refine wpAny_bind (wpAny_bind ?_)
  show wpAny _ _ (load a >>= _) _ _ _
  refine wpAny_bind (wpAny_load ha ?_)
  refine wpAny_pure (wpAny_pure ?_)
  refine bm_if_false rfl ?_
  refine wpAny_bind (wpAny_specialOf hT ba_no_index ?_)
  refine bm_if_true rfl ?_
  first
    | show wpAny _ _ (Builtin.Bytes.buffer? "bytes.__new__" (.ref a) true >>= _) _ _ _
    | (refine wpAny_bind ?_; show wpAny _ _ (Builtin.Bytes.buffer? "bytes.__new__" (.ref a) true >>= _) _ _ _)
  refine wpAny_bind (wpAny_buffer_ba ha ?_)
  refine wpAny_bind (wpAny_rule ?_)
  first
    | (refine wpAny_bind (wpAny_mkBytes ?_ hz); show wpAny _ _ (if (Value.type "bytes" == Value.type "bytes") = true then _ else _) _ _ _)
    | (refine wpAny_bind ?_; refine wpAny_bind (wpAny_mkBytes ?_ hz); show wpAny _ _ (if (Value.type "bytes" == Value.type "bytes") = true then _ else _) _ _ _)
  refine bm_if_true (by decide) ?_
  first
    | exact wpAny_pure (hQ _ _)
    | exact wpAny_pure (wpAny_pure (hQ _ _))
    | exact wpAny_bind (wpAny_pure (wpAny_pure (hQ _ _)))
theorem call_bytes_ba {a : Addr} {b : Array UInt8} {Q : Value → Shared → Prop} (ha : s.heap.get? a = some (baObj b)) (hz : b.size ≤ sizeLine)
    (hQ : ∀ t k, Q (.bytes b t) { s with toks := k }) : wpAny (model prog w) A (call (.type "bytes") [.ref a]) Q E s := by
  refine callType_codes (Q₁ := fun obj s₁ => s₁.TypeIs obj "bytes" ∧ Q obj s₁) F.bm_called (F.bm_typeCall _) F.entry_object_init
    (ba_bytes_new ha hz fun t k => ⟨PySem.W.typeIs_bytes _ _ _, hQ t k⟩) fun obj s₁ h₁ => ?_
  exact ⟨h₁.1, F.args_object_init_2 obj _, object_init_meets F.bm_called.init.lookup F.bm_called.made (by decide) prog w A.in1 _ s₁ ⟨h₁.1, rfl, h₁.2⟩⟩
end

theorem bai_slot_next : Slot "bytearray_iterator" "__next__" "bytearray_iterator.__next__" :=
  .of (owner := "bytearray_iterator") (n := "__next__") (by rw [typeLookup_type, builtinLookup_eq_fast]; kernel_rfl) (by decide +kernel) (by decide +kernel) (by decide +kernel)
    (by first | exact .inl (by decide +kernel) | exact .inr (by decide +kernel)) (by rw [isSubtype_type]; kernel_rfl)
theorem bai_slot_self : Slot "bytearray_iterator" "__iter__" "bytearray_iterator.__iter__" :=
  .of (owner := "bytearray_iterator") (n := "__iter__") (by rw [typeLookup_type, builtinLookup_eq_fast]; kernel_rfl) (by decide +kernel) (by decide +kernel) (by decide +kernel)
    (by first | exact .inl (by decide +kernel) | exact .inr (by decide +kernel)) (by rw [isSubtype_type]; kernel_rfl)
theorem ba_slot_iter : Slot "bytearray" "__iter__" "bytearray.__iter__" :=
  .of (owner := "bytearray") (n := "__iter__") (by rw [typeLookup_type, builtinLookup_eq_fast]; kernel_rfl) (by decide +kernel) (by decide +kernel) (by decide +kernel)
    (by first | exact .inl (by decide +kernel) | exact .inr (by decide +kernel)) (by rw [isSubtype_type]; kernel_rfl)
theorem ba_entry_iter : entryFor table "bytearray.__iter__" = some Builtin.«bytearray.__iter__» := by first | exact entryFor_of_fast (by kernel_rfl) | exact entryFor_of_tree (by kernel_rfl)
theorem bai_entry_next : entryFor table "bytearray_iterator.__next__" = some Builtin.«bytearray_iterator.__next__» := by first | exact entryFor_of_fast (by kernel_rfl) | exact entryFor_of_tree (by kernel_rfl)
theorem bai_entry_self : entryFor table "bytearray_iterator.__iter__" = some Builtin.«dict_keyiterator.__iter__» := entryFor_alias (id' := "dict_keyiterator.__iter__") (by kernel_rfl) rfl (by decide +kernel) (by kernel_rfl)
theorem ba_args_iter (a : Value) : argsOk "bytearray.__iter__" ⟨[a], []⟩ := by unfold argsOk; kernel_rfl
theorem bai_args_next (a : Value) : argsOk "bytearray_iterator.__next__" ⟨[a], []⟩ := by unfold argsOk; kernel_rfl
theorem bai_args_self (a : Value) : argsOk "bytearray_iterator.__iter__" ⟨[a], []⟩ := by unfold argsOk; kernel_rfl

def IsBaIter (h : Heap) (I a : Addr) (i : Nat) : Prop := ∃ o, h.get? I = some o ∧ o.cls = .type "bytearray_iterator" ∧ o.data = .fields #[.ref a, .int i 0]
theorem IsBaIter.type {s : Shared} {I a : Addr} {i : Nat} (y : IsBaIter s.heap I a i) : s.TypeIs (.ref I) "bytearray_iterator" :=
  let ⟨o, ho, hc, _⟩ := y; ⟨o, ho, hc⟩
section
variable {prog : Program} {w : World} {A : Around} {E : Value → Shared → Prop} {s : Shared} {b : Array UInt8}
theorem pyIter_ba {a : Addr} {Q : Value → Shared → Prop} (ha : s.heap.get? a = some (baObj b))
    (hQ : Q (.ref s.heap.objs.size) { s with heap := s.heap.push { cls := .type "bytearray_iterator", data := .fields #[.ref a, .int 0 0] } }) : wpAny (model prog w) A (pyIter (.ref a)) Q E s := by
  refine wpAny_pyIter_slot (ba_type ha) ba_slot_iter (wpAny_call_entry ba_slot_iter (ba_type ha) ba_entry_iter ?_ (ba_args_iter _))
  show wpAny _ _ (do ret (← newFields "bytearray_iterator" [.ref a, rawInt 0])) _ _ s
  exact wpAny_bind (wpAny_newObj_type (wpAny_pure ⟨_, rfl, "bytearray_iterator", _, ⟨_, Heap.get?_push_size _ rfl, rfl⟩, bai_slot_next.lookup, hQ⟩))
theorem pyIter_bai {I a : Addr} {i : Nat} {Q : Value → Shared → Prop} (hit : IsBaIter s.heap I a i) (h : Q (.ref I) s) : wpAny (model prog w) A (pyIter (.ref I)) Q E s := by
  refine wpAny_pyIter_slot hit.type bai_slot_self (wpAny_call_entry bai_slot_self hit.type bai_entry_self ?_ (bai_args_self _))
  show wpAny _ _ (ret (.ref I)) _ _ s
  exact wpAny_pure ⟨_, rfl, "bytearray_iterator", _, hit.type, bai_slot_next.lookup, h⟩
theorem bai_next_item {I a : Addr} {i : Nat} {c : UInt8} {Q : Option Value → Shared → Prop} (hit : IsBaIter s.heap I a i) (ha : s.heap.get? a = some (baObj b)) (hx : b[i]? = some c)
    (hQ : ∀ h', IsBaIter h' I a (i + 1) → Heap.SameBut I s.heap h' → Q (some (.int (c.toNat : Int) s.toks)) { s with heap := h', toks := s.toks + 1 }) : wpAny (model prog w) A (pyNext (.ref I)) Q E s := by
  obtain ⟨o, ho, hc, hd⟩ := id hit
  unfold pyNext
  refine wpAny_bind (wpAny_attempt (wpAny_callSpecial?_slot (name := PySem.Str.ofString "__next__") hit.type bai_slot_next
    (wpAny_call_entry bai_slot_next hit.type bai_entry_next ?_ (bai_args_next _))))
  show wpAny _ _ (field (.ref I) 0 >>= _) _ _ s
  refine wpAny_bind (wpAny_field ho hd (x := .ref a) rfl ?_)
  refine wpAny_bind (wpAny_load ha ?_)
  show wpAny _ _ (field (.ref I) 1 >>= _) _ _ s
  refine wpAny_bind (wpAny_field ho hd (x := .int i 0) rfl ?_)
  simp only [Int.toNat_natCast, hx]
  refine wpAny_bind (wpAny_setField ho hd (by simp) (wpAny_bind (wpAny_mkInt (wpAny_pure ⟨_, rfl, wpAny_pure (hQ _ ?_ (Heap.SameBut.update ..))⟩))))
  exact ⟨_, Heap.get?_update_self _ ho (Obj.isFreed_of_fields (Obj.data_mapFields hd _)), (Obj.cls_mapFields ..).trans hc, by
    rw [Obj.data_mapFields hd]; simp [rawInt]⟩
theorem bai_next_end {I a : Addr} {i : Nat} {Q : Option Value → Shared → Prop} (hh : A.handled = none) (hit : IsBaIter s.heap I a i) (ha : s.heap.get? a = some (baObj b)) (hx : b[i]? = none)
    (hQ : ∀ h', Heap.ExtBut I s.heap h' → Q none { s with heap := h' }) : wpAny (model prog w) A (pyNext (.ref I)) Q E s := by
  obtain ⟨o, ho, hc, hd⟩ := id hit
  unfold pyNext
  refine wpAny_bind (wpAny_attempt (wpAny_callSpecial?_slot (name := PySem.Str.ofString "__next__") hit.type bai_slot_next
    (wpAny_call_entry bai_slot_next hit.type bai_entry_next ?_ (bai_args_next _))))
  show wpAny _ _ (field (.ref I) 0 >>= _) _ _ s
  refine wpAny_bind (wpAny_field ho hd (x := .ref a) rfl ?_)
  refine wpAny_bind (wpAny_load ha ?_)
  show wpAny _ _ (field (.ref I) 1 >>= _) _ _ s
  refine wpAny_bind (wpAny_field ho hd (x := .int i 0) rfl ?_)
  simp only [Int.toNat_natCast, hx]
  refine wpAny_bind (wpAny_rule (wpAny_bind (wpAny_setField ho hd (by simp) (wpAny_bind (wpAny_letGo ?_)))))
  show wpAny _ _ (newExc (.type "StopIteration") [] >>= _) _ _ _
  refine wpAny_bind ?_
  simp only [newExc, newTuple]
  refine wpAny_bind (wpAny_newObj_type ?_ (by size_fits))
  refine wpAny_bind (m := firstArgMember _ _) (wpAny_of_eq (a := Value.none) (by first | rfl | (simp only [firstArgMember]; rfl)) ?_)
  refine wpAny_newObj_type ?_ (by size_fits)
  simp only [raiseNew]
  refine wpAny_bind (wpAny_handled ?_)
  rw [show A.in1.handled = none from hh]
  refine wpAny_bind (wpAny_pure (wpAny_throw ?_))
  refine wpAny_bind (wpAny_isInstance (T := "StopIteration") (b := true) ⟨_, Heap.get?_push_size _ rfl, rfl⟩ isSubtype_stop ?_)
  exact wpAny_pure (hQ _ (((Heap.SameBut.update ..).extBut.push _).push _))
end
theorem ba_walks {prog : Program} {w : World} {A : Around} (hh : A.handled = none) (I a : Addr) (hIa : a ≠ I) (b : Array UInt8) :
    Walks prog w A I [I, a] [I] b.size (fun i v => ∃ c u, b[i]? = some c ∧ v = .int (c.toNat : Int) u) (fun i h => IsBaIter h I a i ∧ h.get? a = some (baObj b)) where
  sub := fun _ hb => by simp at hb; simp [hb]
  frame := fun _ _ _ st hk => ⟨let ⟨o, ho, r⟩ := st.1; ⟨o, hk I (by simp) o ho, r⟩, hk a (by simp) _ st.2⟩
  item := fun i s Q E hi st hQ => by
    refine bai_next_item st.1 st.2 (c := b[i]) (by simp [hi]) fun h' hit' hs' => ?_
    exact hQ _ h' (s.toks + 1) ⟨_, _, by simp [hi], rfl⟩ ⟨hit', (hs'.2 a hIa).trans st.2⟩ fun b o hb e => hs'.extBut b o (fun h => hb (by simp [h])) e
  done := fun s Q E st hQ => bai_next_end hh st.1 st.2 (by simp) fun h' he' => hQ h' s.toks fun b o hb e => he' b o (fun h => hb (by simp [h])) e
  self := fun _ _ _ _ st hQ => pyIter_bai st.1 hQ
end Mine
end
section
open PySem PySem.W PySem.Calls PyProof.Rows
set_option Elab.async false
set_option linter.unusedVariables false
set_option maxRecDepth 100000
namespace Mine
section
variable {prog : Program} {w : World} {A : Around} {E : Value → Shared → Prop} {s : Shared} {env : Env} {h₀ : Heap} {x : PySem.Str} {body : List Stmt} {Q : Flow → Shared → Prop}
theorem kst_ba {σ : Type} {a : Addr} {b : Array UInt8} {m₀ : PySem.Str → Option Value} (Led : σ → List (Addr × Obj)) (ps : σ → List (PySem.Str × Value)) (Facts : σ → Prop) (stored : List PySem.Str) (P : List Int → σ → Prop) (c₀ : σ)
    (ha : h₀.get? a = some (baObj b)) (hh : A.handled = none) (F : Fr h₀ env.locals s.heap m₀) (N : News h₀ env.locals s.heap (Led c₀)) (hf : Facts c₀) (hk : ∀ p ∈ ps c₀, m₀ p.1 = some p.2) (hp : P [] c₀)
    (turn : ∀ (c : σ) (pre post : List Int) (n : Int) t (u : PySem.Str → Option Value) h tk own, KBw.bInts b = pre ++ n :: post → 0 ≤ n → n < 256 → OwnOff own ((Led c₀).map (·.1)) → Facts c → P pre c →
      Fr h₀ env.locals h (fun y => if y = x then some (.int n t) else kstB (fun z => if stored.contains z then u z else m₀ z) (ps c) y) → News h₀ env.locals h (Led c ++ own) →
      wpAny (model prog w) A (execs body env) (InvPostN h₀ env.locals (KstS Led ps Facts x stored m₀ P (pre ++ [n])) own ((Led c₀).map (·.1)) { s with heap := h, toks := tk } Q) E { s with heap := h, toks := tk })
    (done : ∀ (c : σ) (u : PySem.Str → Option Value) h tk, Facts c → P (KBw.bInts b) c → Fr h₀ env.locals h (fun y => if y = x then u y else kstB (fun z => if stored.contains z then u z else m₀ z) (ps c) y) → News h₀ env.locals h (Led c) → Q .next { s with heap := h, toks := tk }) :
    wpAny (model prog w) A (pyIter (.ref a)) (fun it s₂ => LoopAtV prog w A h₀ env x body Q E it s₂) E s := by
  have ha' : s.heap.get? a = some (baObj b) := F.keep _ _ ha
  have hlt : a < h₀.objs.size := Heap.lt_size ha
  have hIa : a ≠ s.heap.objs.size := Nat.ne_of_lt (Heap.lt_size ha')
  refine pyIter_ba ha' ?_
  have W := ba_walks (prog := prog) (w := w) hh s.heap.objs.size a hIa b
  refine loop_invN (fun i m nx => KstS Led ps Facts x stored m₀ P ((KBw.bInts b).take i) m nx) W ?_ ?_ ?_ ?_ ⟨⟨_, Heap.get?_push_size _ rfl, rfl, rfl⟩, Heap.get?_push_of_some _ ha'⟩ (F.push _) (fun p hp => ⟨Heap.get?_push_of_some _ (N p hp).1, (N p hp).2⟩) ⟨c₀, rfl, hf, hk, fun _ _ _ _ => rfl, by simpa using hp⟩ ?_ ?_
  · intro hm
    rcases List.mem_cons.mp hm with e | hm
    · exact absurd F.ns.lt (e ▸ Nat.lt_irrefl _)
    · exact absurd (Nat.lt_of_lt_of_le hlt F.above) ((List.mem_singleton.mp hm) ▸ Nat.lt_irrefl _)
  · intro b' hb
    rw [List.mem_singleton.mp hb]
    exact next_is_new F
  · intro p hp hI
    exact absurd (Heap.lt_size (N p hp).1) ((List.mem_singleton.mp hI) ▸ Nat.lt_irrefl _)
  · intro p hp hI
    rcases List.mem_cons.mp hI with e | hI
    · exact absurd (Heap.lt_size (N p hp).1) (e ▸ Nat.lt_irrefl _)
    · have := (N p hp).2.2
      rw [List.mem_singleton.mp hI, ha] at this
      cases this
  · rintro i v m₁ nx h tk own hi ⟨n, u, hn, rfl⟩ _ hoff ⟨c, rfl, hf', h1, h2, hp'⟩ F₁ N₁
    have hn' := KBw.ints_get hn
    have hs : (KBw.bInts b).take (i + 1) = (KBw.bInts b).take i ++ [(n.toNat : Int)] := by simp [List.take_add_one, hn']
    have e : KBw.bInts b = (KBw.bInts b).take i ++ (n.toNat : Int) :: (KBw.bInts b).drop (i + 1) := by
      have ht := List.take_append_drop (i + 1) (KBw.bInts b)
      rw [hs, List.append_assoc] at ht
      exact ht.symm
    have hb := KBw.ints_in (List.mem_of_getElem? hn')
    rw [hs]
    exact turn c _ _ (n.toNat : Int) u m₁ h tk own e hb.1 hb.2 hoff hf' hp' (kst_fr h1 h2 F₁) N₁
  · rintro m₁ nx h tk ⟨c, rfl, hf', h1, h2, hp'⟩ F₁ N₁
    have h8 : b.size = (KBw.bInts b).length := (KBw.ints_length b).symm
    rw [h8, List.take_length] at hp'
    exact done c m₁ h tk hf' hp' (kst_frOut h1 h2 F₁) N₁
end
end Mine
end
section
open PySem PySem.W PySem.Calls PyProof.Rows
set_option Elab.async false
set_option linter.unusedVariables false
set_option maxRecDepth 100000
namespace Mine
section
variable {M : Model} {A : Around} {E : Value → Shared → Prop} {s : Shared} {env : Env}
theorem wpS_execs_cons {st rest} {Q : Flow → Shared → Prop}
    (h : wpS M A (exec st env) (fun f s' => match f with | .next => wpS M A (execs rest env) Q E s' | f => Q f s') E s) :
    wpS M A (execs (st :: rest) env) Q E s := by
  rw [execs_cons]
  refine wpS_bind (wpS_mono h (fun f s' h' => ?_) fun _ _ x => x)
  cases f with
  | next => exact h'
  | brk => exact wpS_pure h'
  | cont => exact wpS_pure h'
  | ret v => exact wpS_pure h'
/-- a plain statement first -/
theorem wpS_execs_any {st rest} {Q : Flow → Shared → Prop}
    (h : wpAny M A (exec st env) (fun f s' => match f with | .next => wpS M A (execs rest env) Q E s' | f => Q f s') E s) :
    wpS M A (execs (st :: rest) env) Q E s := wpS_execs_cons (wpS_of_any h)
theorem wpS_Assign_Name {x pos' value pos} {Q : Flow → Shared → Prop}
    (h : wpS M A (eval value env) (fun v s₁ => wpAny M A (storeName env x v) (fun _ => Q .next) E s₁) E s)
    (hs : swapsWith value (some (.Name x pos')) pos.line env = pure false) :
    wpS M A (exec (.Assign [.Name x pos'] value pos) env) Q E s := by
  rw [exec_Assign_Name env x pos' value pos hs]
  exact wpS_step (wpAny_standAt (wpS_bind (wpS_mono h (fun v s₁ h₁ => wpS_step (wpAny_standAt (wpS_step (wpAny_bindName (wpAny_mono h₁ (fun _ _ q => wpS_pure q) fun _ _ x => x))))) fun _ _ x => x)))
theorem wpS_Expr_none {e pos} {Q : Flow → Shared → Prop} (h : wpS M A (eval e env) (fun v s' => v = .none ∧ Q .next s') E s)
    (hi : interactive env = false) (hs : swapsWith e none pos.line env = pure false) :
    wpS M A (exec (.Expr e pos) env) Q E s := by
  rw [exec_Expr env e pos hi hs]
  refine wpS_step (wpAny_standAt (wpS_bind (wpS_mono h (fun v s' h' => ?_) fun _ _ x => x)))
  obtain ⟨rfl, hq⟩ := h'
  rw [dropValue_plain fun a => by intro x; cases x]
  exact wpS_pure hq
theorem wpS_Expr_bytes {e pos} {Q : Flow → Shared → Prop} (h : wpS M A (eval e env) (fun v s' => (∃ b t, v = .bytes b t) ∧ Q .next s') E s)
    (hi : interactive env = false) (hs : swapsWith e none pos.line env = pure false) :
    wpS M A (exec (.Expr e pos) env) Q E s := by
  rw [exec_Expr env e pos hi hs]
  refine wpS_step (wpAny_standAt (wpS_bind (wpS_mono h (fun v s' h' => ?_) fun _ _ x => x)))
  obtain ⟨⟨b, t, rfl⟩, hq⟩ := h'
  rw [dropValue_plain fun a => by intro x; cases x]
  exact wpS_pure hq
theorem wpS_If {test body orelse pos} {Q : Flow → Shared → Prop}
    (h : wpS M A (isTrue test env (eval test env))
      (fun b s₂ => if b then wpS M A (execs body env) Q E s₂ else wpS M A (execs orelse env) Q E s₂) E s) :
    wpS M A (exec (.If test body orelse pos) env) Q E s := by
  rw [exec_If]
  refine wpS_step (wpAny_standAt (wpS_bind (wpS_mono h (fun b s₂ h₂ => ?_) fun _ _ x => x)))
  cases b <;> exact h₂
theorem wpS_Return_some {e pos} {Q : Flow → Shared → Prop} (h : wpS M A (eval e env) (fun v => Q (.ret v)) E s) :
    wpS M A (exec (.Return (some e) pos) env) Q E s := by
  rw [exec_Return_some]
  exact wpS_step (wpAny_standAt (wpS_bind (wpS_mono h (fun v s₁ q => wpS_pure q) fun _ _ x => x)))
theorem wpS_isTrue_Compare1 {l op r pos whole} {Q : Bool → Shared → Prop}
    (h : wpS M A (eval l env) (fun a s₁ => wpAny M A (eval r env) (fun b s₂ => wpAny M A (compareOp op a b)
      (fun c s₃ => wpAny M A (truthy c) Q E s₃) E s₂) E s₁) E s)
    (hm : behindInMarks op r = false := by with_unfolding_all rfl) : wpS M A (isTrue (.Compare l [op] [r] pos) env whole) Q E s := by
  rw [isTrue_Compare1, markedBehindIn_of_false hm]
  refine wpS_bind (wpS_mono h (fun a s₁ h₁ => wpS_of_any ?_) fun _ _ x => x)
  refine wpAny_bind (wpAny_holding (wpAny_mono h₁ (fun b s₂ h₂ => wpAny_bind (wpAny_standAt (wpAny_bind ?_))) fun _ _ x => x))
  intro Γ p hΓ
  rw [Sem.wp_operate]
  exact Sem.wp_mono M Γ _ (fun c p₃ s₃ h₃ => wpAny_holding h₃) (fun _ _ _ x => x) _ _ (h₂ Γ p hΓ)
/-- `a or b`: the first plain -/
theorem wpS_isTrue_or {x y pos whole} {Q : Bool → Shared → Prop}
    (h : wpAny M A (isTrue x env (eval x env)) (fun b s₁ => if b = true then Q true s₁ else wpS M A (isTrue y env (eval y env)) Q E s₁) E s) :
    wpS M A (isTrue (.BoolOp .Or [x, y] pos) env whole) Q E s := by
  show wpS M A (allTrue .Or [x, y] env) Q E s
  refine wpS_step (wpAny_mono h (fun b s₁ h₁ => ?_) fun _ _ x => x)
  cases b with
  | true => exact wpS_pure h₁
  | false =>
    show wpS M A (allTrue .Or [y] env) Q E s₁
    refine wpS_bind (wpS_mono h₁ (fun b s₂ h₂ => ?_) fun _ _ x => x)
    cases b with
    | true => exact wpS_pure h₂
    | false => exact wpS_pure h₂
/-- `a and b`: the first plain -/
theorem wpS_isTrue_and {x y pos whole} {Q : Bool → Shared → Prop}
    (h : wpAny M A (isTrue x env (eval x env)) (fun b s₁ => if b = true then wpS M A (isTrue y env (eval y env)) Q E s₁ else Q false s₁) E s) :
    wpS M A (isTrue (.BoolOp .And [x, y] pos) env whole) Q E s := by
  show wpS M A (allTrue .And [x, y] env) Q E s
  refine wpS_step (wpAny_mono h (fun b s₁ h₁ => ?_) fun _ _ x => x)
  cases b with
  | false => exact wpS_pure h₁
  | true =>
    show wpS M A (allTrue .And [y] env) Q E s₁
    refine wpS_bind (wpS_mono h₁ (fun b s₂ h₂ => ?_) fun _ _ x => x)
    cases b with
    | true => exact wpS_pure h₂
    | false => exact wpS_pure h₂

theorem wpS_tail {t : Sem Value} {Q : Value → Shared → Prop} (ht : wpS M A t Q E s) : wpS M A (t >>= fun r => holding [r] point >>= fun _ => pure r) Q E s :=
  wpS_bind (wpS_mono ht (fun r s₂ hr => wpS_bind (wpS_holding (wpS_of_any (wpAny_point (wpS_pure hr))))) fun _ _ x => x)
/-- a def of the text's, called with plain arguments -/
theorem wpS_callWith_fn {pos : Pos} {a : Addr} {first : List Value} {args : List (Bool × Sem Value)} {Q : Value → Shared → Prop}
    (h : wpAny M A (evalArgs (.ref a) true args []) (fun x s₁ => (∃ o fd, s₁.heap.get? a = some o ∧ o.data = .func fd) ∧ wpS M A (call (.ref a) (first ++ x.pos) x.kw) Q E s₁) E s) :
    wpS M A (callWith pos (.ref a) first args []) Q E s := by
  unfold callWith
  refine wpS_step (wpAny_holding (wpAny_mono h (fun a' s₁ h₁ => wpS_step (wpAny_standAt ?_)) fun _ _ x => x))
  obtain ⟨⟨o, fd, ho, hd⟩, h₁⟩ := h₁
  cases hs : args.any (·.1) <;> simp only [List.any_nil, Bool.or_false] <;>
    refine wpS_step (m := keeperOf (.ref a)) ?_ <;> unfold keeperOf <;>
    refine wpAny_bind (wpAny_load ho ?_) <;> rw [hd] <;> refine wpAny_pure ?_
  · dsimp only
    by_cases hl : args.length + 2 * ([] : List (Option Str × Sem Value)).length > 30
    · rw [if_pos hl]; exact wpS_tail h₁
    · rw [if_neg hl]
      have h2 : wpS M A (callMarked plainCall (.ref a) (first ++ a'.pos) a'.kw) Q E s₁ := by unfold callMarked; exact wpS_keep h₁
      exact wpS_tail h2
  · dsimp only
    have h2 : wpS M A (callMarked starredCall (.ref a) (first ++ a'.pos) a'.kw) Q E s₁ := by unfold callMarked; exact wpS_keep h₁
    exact wpS_tail h2
theorem wpS_callWith_ty {pos : Pos} {T : String} {first : List Value} {args : List (Bool × Sem Value)} {Q : Value → Shared → Prop} (hplain : args.any (·.1) = false)
    (h : wpAny M A (evalArgs (.type T) true args []) (fun a s₁ => wpS M A (call (.type T) (first ++ a.pos) a.kw) Q E s₁) E s) :
    wpS M A (callWith pos (.type T) first args []) Q E s := by
  unfold callWith
  refine wpS_step (wpAny_holding (wpAny_mono h (fun a s₁ h₁ => wpS_step (wpAny_standAt ?_)) fun _ _ x => x))
  simp only [hplain, List.any_nil, Bool.or_false]
  refine wpS_step (wpAny_pure ?_)
  exact wpS_tail h₁
theorem wpS_callWith_bi {pos : Pos} {id : String} {first : List Value} {args : List (Bool × Sem Value)} {Q : Value → Shared → Prop} (hplain : args.any (·.1) = false)
    (h : wpAny M A (evalArgs (.builtin id) true args []) (fun a s₁ => wpS M A (call (.builtin id) (first ++ a.pos) a.kw) Q E s₁) E s) :
    wpS M A (callWith pos (.builtin id) first args []) Q E s := by
  unfold callWith
  refine wpS_step (wpAny_holding (wpAny_mono h (fun a s₁ h₁ => wpS_step (wpAny_standAt ?_)) fun _ _ x => x))
  simp only [hplain, List.any_nil, Bool.or_false]
  refine wpS_step (wpAny_pure ?_)
  exact wpS_tail h₁
theorem wpS_Call {f : Expr} {args : List Expr} {pos : Pos} {Q : Value → Shared → Prop}
    (h : wpAny M A (eval f env) (fun fv s₁ => wpS M A (callWith pos fv [] (backTo pos (starEach args env)) []) Q E s₁) E s)
    (he : eval (.Call f args [] pos) env = (do callWith pos (← eval f env) [] (backTo pos (starEach args env)) [])) :
    wpS M A (eval (.Call f args [] pos) env) Q E s := by
  rw [he]; exact wpS_step h
theorem wpS_MethodCall {o : Expr} {name : Str} {apos pos : Pos} {args : List Expr} {pl : Sem Bool} {Q : Value → Shared → Prop}
    (h : wpAny M A (eval o env) (fun ov s₁ => wpAny M A (getMethod ov name pl) (fun fx s₂ => wpS M A (callWith pos fx.1 fx.2 (backTo pos (starEach args env)) []) Q E s₂) E s₁) E s)
    (he : eval (.Call (.Attribute o name apos) args [] pos) env = (do
      let ov ← eval o env
      standAt apos.atName
      let (f, first) ← holding [ov] (getMethod ov name pl)
      callWith pos f first (backTo pos (starEach args env)) [])) :
    wpS M A (eval (.Call (.Attribute o name apos) args [] pos) env) Q E s := by
  rw [he]
  exact wpS_step (wpAny_mono h (fun ov s₁ h₁ => wpS_step (wpAny_standAt (wpS_step (wpAny_holding (wpAny_mono h₁ (fun fx s₂ h₂ => h₂) fun _ _ x => x))))) fun _ _ x => x)
end
section
variable {prog : Program} {w : World} {A : Around} {E : Value → Shared → Prop} {R : Result → Shared → Prop} {s : Shared} {env : Env}
theorem codeS_loop {c : Code} (hq : c.quiet = true) (ok : okCode c = true) (I : Nat → Shared → Prop)
    (turn : ∀ n s, I n s → wpS (model prog w) (A.under c) ((model prog w).den c)
      (fun fin s' => match fin with | .done f => R (.ok f) s' | .again c' => c' = c ∧ ∃ m, m < n ∧ I m s') (fun e s' => R (.error e) s') s)
    (n : Nat) (h : I n s) : codeS (model prog w) A c R s := by
  induction n using Nat.strongRecOn generalizing s with
  | ind n ih =>
    refine codeS_of_tree ok (wpS_mono (turn n s h) (fun fin s' hf => ?_) fun _ _ h' => h')
    cases fin with
    | done f => exact hf
    | again c' => obtain ⟨rfl, m, hm, hI⟩ := hf; exact ⟨hq, ih m hm hI⟩
theorem wpS_While {test : Expr} {body orelse : List Stmt} {pos : Pos} {Q : Flow → Shared → Prop} (I : Nat → Shared → Prop)
    (turn : ∀ n s, I n s →
      wpAny (model prog w) A (isTrue test env (eval test env)) (fun b s₂ =>
        if b then wpS (model prog w) A (execs body env) (fun f s₃ => match f with
            | .next | .cont => ∃ m, m < n ∧ I m s₃
            | .brk => Q .next s₃
            | .ret v => Q (.ret v) s₃) (notedBy (model prog w) A env (cameBackBy (model prog w) A env E)) s₂
        else wpAny (model prog w) A (execs orelse env) (fun f s₃ => Q f s₃) (notedBy (model prog w) A env (cameBackBy (model prog w) A env E)) s₂)
        (notedBy (model prog w) A env (cameBackBy (model prog w) A env E)) s)
    (n : Nat) (h : I n s) : wpS (model prog w) A (exec (.While test body orelse pos) env) Q E s := by
  rw [exec_While]
  refine wpS_step (wpAny_standAt ?_)
  unfold runOwn
  have hc : codeS (model prog w) A (.whileLoop test body orelse env) (fun r s' => match r with | .ok f => Q f s' | .error e => cameBackBy (model prog w) A env E e s') s := by
    refine codeS_loop rfl rfl I (fun n s hI => ?_) n h
    show wpS _ A ((whileTurn test body orelse env).onRaise (fun x => do noteFrame x env; theTreesLotGoes x)) _ _ s
    refine wpS_onRaise ?_
    simp only [whileTurn]
    have back : ∀ e s', notedBy (model prog w) A env (cameBackBy (model prog w) A env E) e s' →
        wpS (model prog w) A (do noteFrame e env; theTreesLotGoes e) (fun _ s'' => cameBackBy (model prog w) A env E e s'') (fun e s' => cameBackBy (model prog w) A env E e s') s' := fun e s' hx => by
      refine wpS_step ?_
      refine wpAny_mono hx (fun _ _ q => wpS_of_any (wpAny_theTreesLotGoes q)) fun _ _ q => q
    refine wpS_step (wpAny_mono (turn n s hI) (fun b s₂ h₂ => ?_) fun e s' h' => back e s' h')
    cases b with
    | false =>
      simp only [Bool.false_eq_true, if_false] at h₂ ⊢
      exact wpS_step (wpAny_mono h₂ (fun f s₃ h₃ => wpS_pure h₃) fun e s' h' => back e s' h')
    | true =>
      simp only [if_true] at h₂ ⊢
      refine wpS_bind (wpS_mono h₂ (fun f s₃ h₃ => ?_) fun e s' h' => back e s' h')
      cases f with
      | next => exact wpS_pure ⟨rfl, h₃⟩
      | cont => exact wpS_pure ⟨rfl, h₃⟩
      | brk => exact wpS_pure h₃
      | ret v => exact wpS_pure h₃
  refine wpS_onRaise (wpS_run (codeS_mono hc fun r s' hr => ?_))
  cases r with
  | ok f => exact hr
  | error e => exact wpS_of_any hr
end
end Mine
end
section
open PySem PySem.W PySem.Calls PyProof.Rows
set_option Elab.async false
set_option linter.unusedVariables false
set_option maxRecDepth 100000
namespace Mine
section
variable {M : Model} {A : Around} {E : Value → Shared → Prop} {s : Shared} {env : Env}
theorem wpS_Assign_swapped {elts : List Expr} {k : Nat} {tpos : Pos} {value : Expr} {pos : Pos} {names : List Str} {Q : Flow → Shared → Prop}
    (h : wpS M A (eval value env) (fun v s₁ => wpAny M A (unpackItems v names.length none) (fun items s₂ => wpAny M A (assignInOrder (names.reverse.map fun n => bindName env n) items.reverse) (fun _ => Q .next) E s₂) E s₁) E s)
    (hs : swapsWithSole [.Tuple elts k tpos] value pos.line env = pure false) (hw : swappedStores [.Tuple elts k tpos] value env = pure (some names)) :
    wpS M A (exec (.Assign [.Tuple elts k tpos] value pos) env) Q E s := by
  rw [arm_exec_Assign]
  refine wpS_step (wpAny_standAt ?_)
  rw [hs]
  refine wpS_step (wpAny_pure ?_)
  rw [if_neg (by decide)]
  refine wpS_bind (wpS_mono h (fun v s₁ h₁ => ?_) fun _ _ x => x)
  rw [hw]
  refine wpS_step (wpAny_pure ?_)
  unfold assignStores
  refine wpS_step (wpAny_rule ?_)
  exact wpS_step (wpAny_mono h₁ (fun items s₂ h₂ => wpS_step (wpAny_mono h₂ (fun _ _ x => wpS_pure x) fun _ _ x => x)) fun _ _ x => x)
theorem wpS_spliced_first {e : Expr} {rest : List Expr} {pos : Pos} {Q : List Value → Shared → Prop}
    (h : wpS M A (eval e env) (fun v s₁ => wpAny M A (spliced (backTo pos (starEach rest env))) (fun vs s₂ => Q (v :: vs) s₂) E s₁) E s)
    (he : starEach (e :: rest) env = (false, eval e env) :: starEach rest env) : wpS M A (spliced (backTo pos (starEach (e :: rest) env))) Q E s := by
  rw [he]
  show wpS M A (spliced ((false, eval e env) :: backTo pos (starEach rest env))) Q E s
  rw [spliced]
  refine wpS_bind (wpS_mono h (fun v s₁ h₁ => ?_) fun _ _ x => x)
  simp only [Bool.false_eq_true, if_false]
  exact wpS_step (wpAny_pure (wpS_step (wpAny_holding (wpAny_mono h₁ (fun vs s₂ h₂ => wpS_pure h₂) fun _ _ x => x))))
theorem evalArgs_one {f : Value} {e : Expr} {pos : Pos} {Q : Args → Shared → Prop} (h : wpAny M A (eval e env) (fun v s₁ => Q ⟨[v], []⟩ s₁) E s)
    (he : starEach [e] env = [(false, eval e env)]) : wpAny M A (evalArgs f true (backTo pos (starEach [e] env)) []) Q E s := by
  rw [he]
  show wpAny M A (evalArgs f true ((false, eval e env) :: []) []) Q E s
  exact evalArgs_plain (spliced_cons (wpAny_mono h (fun v s₁ h₁ => spliced_nil h₁) fun _ _ x => x))
/-- a call of a def, as one word -/
def FnCall (M : Model) (A : Around) (a : Addr) (vs : List Value) (kw : List (Str × Value)) (Q : Value → Shared → Prop) (E : Value → Shared → Prop) (s : Shared) : Prop :=
  (∃ o fd, s.heap.get? a = some o ∧ o.data = .func fd) ∧ wpS M A (call (.ref a) vs kw) Q E s
theorem wpS_callWith_fn2 {pos : Pos} {a : Addr} {first : List Value} {args : List (Bool × Sem Value)} {Q : Value → Shared → Prop}
    (h : wpAny M A (evalArgs (.ref a) true args []) (fun x s₁ => FnCall M A a (first ++ x.pos) x.kw Q E s₁) E s) :
    wpS M A (callWith pos (.ref a) first args []) Q E s := wpS_callWith_fn h
theorem wpS_Tuple {elts : List Expr} {x1} {pos : Pos} {Q : Value → Shared → Prop}
    (h : wpS M A (spliced (backTo pos (starEach elts env))) (fun vs s₁ => wpAny M A (newTuple vs) Q E s₁) E s) :
    wpS M A (eval (.Tuple elts x1 pos) env) Q E s := by
  rw [arm_eval_Tuple]
  exact wpS_step (wpAny_standAt (wpS_bind (wpS_mono h (fun vs s₁ h₁ => wpS_of_any h₁) fun _ _ e => e)))
end
section
variable {prog : Program} {w : World} {A : Around} {E : Value → Shared → Prop} {Q : Flow → Shared → Prop} {s : Shared} {env : Env} {h₀ : Heap} {L : Addr}
theorem ksS_while {σ : Type} {test : Expr} {body : List Stmt} {pos : Pos} {m₀ : Str → Option Value} (Led : σ → List (Addr × Obj)) (ps : σ → List (Str × Value)) (Facts : σ → Prop) (stored : List Str) (P : σ → Prop) (μ : σ → Nat) (c₀ : σ)
    (F : Fr h₀ L s.heap m₀) (N : News h₀ L s.heap (Led c₀)) (hf : Facts c₀) (hk : ∀ p ∈ ps c₀, m₀ p.1 = some p.2) (hp : P c₀)
    (turn : ∀ (c : σ) (u : Str → Option Value) h tk, Facts c → P c → Fr h₀ L h (kstB (fun z => if stored.contains z then u z else m₀ z) (ps c)) → News h₀ L h (Led c) →
      wpAny (model prog w) A (isTrue test env (eval test env)) (fun b s₂ =>
        if b = true then wpS (model prog w) A (execs body env) (KswPost h₀ L s Led ps Facts stored m₀ P μ Q c) E s₂ else Q .next s₂) E { s with heap := h, toks := tk })
    (hE : PassesOwn (model prog w) A env E := by passes_own) :
    wpS (model prog w) A (exec (.While test body [] pos) env) Q E s := by
  refine wpS_While (fun n s' => ∃ (c : σ) (m : Str → Option Value) (h : Heap) (tk : Nat), s' = { s with heap := h, toks := tk } ∧ Fr h₀ L h m ∧ News h₀ L h (Led c) ∧ μ c = n ∧ Facts c ∧ (∀ p ∈ ps c, m p.1 = some p.2) ∧ (∀ z, (∀ p ∈ ps c, z ≠ p.1) → stored.contains z = false → m z = m₀ z) ∧ P c)
    ?_ (μ c₀) ⟨c₀, m₀, s.heap, s.toks, rfl, F, N, rfl, hf, hk, fun _ _ _ => rfl, hp⟩
  intro n s' hst
  refine letG ?_; intro goal
  obtain ⟨c, m₁, h, tk, rfl, F₁, N₁, rfl, hf', h1, h2, hp'⟩ := hst
  refine wpAny_mono (turn c m₁ h tk hf' hp' (ksw_fr h1 h2 F₁) N₁) (fun b s₂ p => ?_) hE
  cases b with
  | false =>
    simp only [Bool.false_eq_true, if_false] at p ⊢
    exact wpAny_execs_nil p
  | true =>
    simp only [if_true] at p ⊢
    refine wpS_mono p (fun f s₃ q => ?_) hE
    cases f with
    | ret v => exact q
    | brk => exact q
    | next =>
      refine letG ?_; intro goal2
      obtain ⟨c', h', tk', m', news', rfl, F', N', hn, hf9, hk9, hr9, hp9, hm9⟩ := q
      exact ⟨μ c', hm9, c', m', h', tk', rfl, F', fun p hp => N' p (hn p hp), rfl, hf9, hk9, hr9, hp9⟩
    | cont =>
      refine letG ?_; intro goal2
      obtain ⟨c', h', tk', m', news', rfl, F', N', hn, hf9, hk9, hr9, hp9, hm9⟩ := q
      exact ⟨μ c', hm9, c', m', h', tk', rfl, F', fun p hp => N' p (hn p hp), rfl, hf9, hk9, hr9, hp9⟩
theorem wpS_Try_except {body orelse : List Stmt} {h₀ : ExceptHandler} {hs : List ExceptHandler} {pos : Pos} {Q : Flow → Shared → Prop}
    (h : wpS (model prog w) A (execs body env) (fun f s₁ => match f with | .next => wpAny (model prog w) A (execs orelse env) Q E s₁ | f => Q f s₁)
      (fun e s₁ => wpAny (model prog w) A (noteFrame e env) (fun _ s₂ => wpAny (model prog w) A (setFlight e none) (fun _ s₃ => wpAny (model prog w) A (handleBy e env (h₀ :: hs)) Q E s₃) E s₂) E s₁) s) :
    wpS (model prog w) A (exec (.Try body (h₀ :: hs) orelse [] pos) env) Q E s := by
  rw [arm_exec_Try]
  refine wpS_step (wpAny_standAt ?_)
  unfold tryStmt
  simp only [List.isEmpty_nil, if_true, List.isEmpty_cons, Bool.false_and, Bool.false_eq_true, if_false]
  refine wpS_bind (wpS_attempt (wpS_mono h (fun f s₁ h₁ => ?_) fun e s₁ h₁ => ?_))
  · cases f <;> first | exact wpS_of_any h₁ | exact wpS_pure h₁
  · exact wpS_of_any (wpAny_bind (wpAny_mono h₁ (fun _ _ h₂ => wpAny_bind h₂) fun _ _ x => x))
end
end Mine
end
section
open PySem PySem.W PyProof.Rows
set_option Elab.async false
set_option linter.unusedVariables false
namespace Mine
section
variable {prog : Program} {w : World} {A : Around} {G : Heap} {s : Shared} {d u : Nat}
  {R : Result → Shared → Prop} {name qual : Str} {params : Arguments} {body : List Stmt} {scope : Scope} {dV kV doc pm cdv ct oc : Value} {an od : Option Addr} {osl : Array (Option Value)} {f : Addr} {args : Args} {binds : List (Str × Value)}
theorem cells_news {s s' : Shared} {Sg : Heap} {hid : List (Addr × Obj)} {env : Env} {binds : List (Str × Value)} {scope : Scope} {qual : Str} {f : Addr} {cdv : Value}
    (hh : ∀ p ∈ hid, s.heap.get? p.1 = some p.2 ∧ Sg.get? p.1 = none)
    (hnd : ((cellsFrom 0 scope.names []).map (·.1)).Nodup)
    (x : InCallC s s.heap.objs.size (bindL (envOfC qual scope s.heap.objs.size f cdv).kindOf binds fun _ => none) (cellsFrom (s.heap.objs.size + 1) scope.names []) (bindC (envOfC qual scope s.heap.objs.size f cdv).kindOf binds fun _ => none) s') :
    ∃ h₁ tk cells, s' = { s with heap := h₁, toks := tk } ∧ Fr (hideAll s.heap (hid.map (·.1))) s.heap.objs.size h₁ (bindL (envOfC qual scope s.heap.objs.size f cdv).kindOf binds fun _ => none) ∧
      News (hideAll s.heap (hid.map (·.1))) s.heap.objs.size h₁ (cells ++ hid) ∧
      CellsAre (bindC (envOfC qual scope s.heap.objs.size f cdv).kindOf binds fun _ => none) (cellsFrom (s.heap.objs.size + 1) scope.names []) cells := by
  obtain ⟨h₁, tk, rfl, _⟩ := x.done
  have hk₁ := x.toInCall.keep
  obtain ⟨cells, NC, Y⟩ := Cl.news (h₀ := s.heap) (Nat.le_refl _) fun n c hm => ⟨x.cell n c (lookup_of_mem_nodup (cellsFrom_names scope.names 0 (s.heap.objs.size + 1) [] [] rfl ▸ hnd) hm), x.above n c hm⟩
  refine ⟨h₁, tk, cells, rfl, ⟨x.toInCall.ns, fun b o e => hk₁ b o (of_hideAll _ e), Nat.le_of_eq (hideAll_size _ _)⟩, fun p hp => ?_, Y⟩
  rcases List.mem_append.mp hp with hp | hp
  · refine ⟨(NC p hp).1, (NC p hp).2.1, ?_⟩
    cases q : (hideAll s.heap (hid.map (·.1))).get? p.1 with
    | none => rfl
    | some o => have := of_hideAll _ q; rw [(NC p hp).2.2] at this; cases this
  · exact ⟨hk₁ _ _ (hh p hp).1, Nat.ne_of_lt (Heap.lt_size (hh p hp).1), hideAll_none _ (List.mem_map_of_mem hp)⟩
theorem enterC (S : Site w A G s.heap d u) (hid : List (Addr × Obj))
    (hh : ∀ p ∈ hid, s.heap.get? p.1 = some p.2 ∧ G.get? p.1 = none ∧ ∀ es n, p.2.data ≠ .dict es n)
    (ho : (hd.heap_39 w.params).lookup f = some ⟨oc, od, .func (fnX name qual params body scope [] dV kV doc pm an cdv ct), osl⟩) (hcd : codeIn (hd.heap_39 w.params) cdv qual = true)
    (hbind : BindsTo s (fnX name qual params body scope [] dV kV doc pm an cdv ct) args binds)
    (hkind : (binds.all fun y => scope.names.lookup y.1 == some .local || scope.names.lookup y.1 == some .cell) = true)
    (hnd : ((cellsFrom 0 scope.names []).map (·.1)).Nodup)
    (h : ∀ g L' h₁ tk cells fr mean mg mb, (∀ h', g.StaysIn h' → But (hid.map (·.1)) s.heap h') → Fr g L' h₁ (bindL (envOfC qual scope L' f cdv).kindOf binds fun _ => none) → News g L' h₁ (cells ++ hid) →
      CellsAre (bindC (envOfC qual scope L' f cdv).kindOf binds fun _ => none) (cellsFrom (L' + 1) scope.names []) cells → Site w A G g d u → Below A G fr g → (hd.heap_39 w.params).In g → Top hd.view_39 (looseW hd.view_39 [Str.ofString "crc32", Str.ofString "adler32", Str.ofString "stored"]) mean mg mb g →
      (∀ p ∈ hid, p.1 < L') →
      wpAny (model prog w) (A.deeper (envOfC qual scope L' f cdv)) (execs body (envOfC qual scope L' f cdv))
        (fun fl s' => R (.ok (.ret (match fl with | .ret v => v | _ => .none))) s')
        (fun e s' => wpAny (model prog w) (A.deeper (envOfC qual scope L' f cdv)) (leaving (envOfC qual scope L' f cdv) e) (fun _ s'' => R (.error e) s'') (fun e' s'' => R (.error e') s'') s')
        { s with heap := h₁, toks := tk })
    (hco : scope.isCoroutine = false) (hgen : scope.isGenerator = false) (hk : scope.kind = .function) :
    codeAny (model prog w) A (.call (.ref f) args) R s := by
  have X : (hd.heap_39 w.params).In s.heap := S.kin.keeps S.gst
  obtain ⟨mean, mg, mb, T⟩ := S.top
  have Sg := S.hide hh
  obtain ⟨fr, B, D⟩ := Sg.fr
  refine codeAny_call_function (by have := S.dep; omega) (X _ _ ho) rfl hco hgen rfl (codeRec_of X hcd) (hbind _ _ _ _ ?_)
  refine wpAny_newFunctionEnv_cells hk (kindsX hkind _) fun env' he s' x => ?_
  subst he
  refine ⟨(T.nolimit.keeps S.gst).keeps x.toInCall.keep, codeAny_func ?_⟩
  obtain ⟨h₁, tk, cells, rfl, F, N, Y⟩ := cells_news (env := envOfC qual scope s.heap.objs.size f cdv) (Sg := G) (fun p hp => ⟨(hh p hp).1, (hh p hp).2.1⟩) hnd x
  exact h _ s.heap.objs.size h₁ tk cells fr mean mg mb (fun h' k => But.of_hide k) F N Y Sg B (S.kin.keeps Sg.gst) (T.keeps Sg.gst) (fun p hp => Heap.lt_size (hh p hp).1)
theorem enterSC (S : Site w A G s.heap d u) (hid : List (Addr × Obj))
    (hh : ∀ p ∈ hid, s.heap.get? p.1 = some p.2 ∧ G.get? p.1 = none ∧ ∀ es n, p.2.data ≠ .dict es n)
    (ho : (hd.heap_39 w.params).lookup f = some ⟨oc, od, .func (fnX name qual params body scope [] dV kV doc pm an cdv ct), osl⟩) (hcd : codeIn (hd.heap_39 w.params) cdv qual = true)
    (hbind : BindsTo s (fnX name qual params body scope [] dV kV doc pm an cdv ct) args binds)
    (hkind : (binds.all fun y => scope.names.lookup y.1 == some .local || scope.names.lookup y.1 == some .cell) = true)
    (hnd : ((cellsFrom 0 scope.names []).map (·.1)).Nodup)
    (h : ∀ g L' h₁ tk cells fr mean mg mb, (∀ h', g.StaysIn h' → But (hid.map (·.1)) s.heap h') → Fr g L' h₁ (bindL (envOfC qual scope L' f cdv).kindOf binds fun _ => none) → News g L' h₁ (cells ++ hid) →
      CellsAre (bindC (envOfC qual scope L' f cdv).kindOf binds fun _ => none) (cellsFrom (L' + 1) scope.names []) cells → Site w A G g d u → Below A G fr g → (hd.heap_39 w.params).In g → Top hd.view_39 (looseW hd.view_39 [Str.ofString "crc32", Str.ofString "adler32", Str.ofString "stored"]) mean mg mb g →
      (∀ p ∈ hid, p.1 < L') →
      wpS (model prog w) (A.deeper (envOfC qual scope L' f cdv)) (execs body (envOfC qual scope L' f cdv))
        (fun fl s' => R (.ok (.ret (match fl with | .ret v => v | _ => .none))) s')
        (fun e s' => wpAny (model prog w) (A.deeper (envOfC qual scope L' f cdv)) (leaving (envOfC qual scope L' f cdv) e) (fun _ s'' => R (.error e) s'') (fun e' s'' => R (.error e') s'') s')
        { s with heap := h₁, toks := tk })
    (hco : scope.isCoroutine = false) (hgen : scope.isGenerator = false) (hk : scope.kind = .function) :
    codeS (model prog w) A (.call (.ref f) args) R s := by
  have X : (hd.heap_39 w.params).In s.heap := S.kin.keeps S.gst
  obtain ⟨mean, mg, mb, T⟩ := S.top
  have Sg := S.hide hh
  obtain ⟨fr, B, D⟩ := Sg.fr
  refine codeS_call_function (by have := S.dep; omega) (X _ _ ho) rfl hco hgen rfl (codeRec_of X hcd) (hbind _ _ _ _ ?_)
  refine wpAny_newFunctionEnv_cells hk (kindsX hkind _) fun env' he s' x => ?_
  subst he
  refine ⟨(T.nolimit.keeps S.gst).keeps x.toInCall.keep, codeS_func ?_⟩
  obtain ⟨h₁, tk, cells, rfl, F, N, Y⟩ := cells_news (env := envOfC qual scope s.heap.objs.size f cdv) (Sg := G) (fun p hp => ⟨(hh p hp).1, (hh p hp).2.1⟩) hnd x
  refine wpS_mono ?_ (fun _ _ x => x) fun _ _ x => wpS_of_any x
  exact h _ s.heap.objs.size h₁ tk cells fr mean mg mb (fun h' k => But.of_hide k) F N Y Sg B (S.kin.keeps Sg.gst) (T.keeps Sg.gst) (fun p hp => Heap.lt_size (hh p hp).1)
end
end Mine
end
section
open PySem PySem.W PyProof.Rows
set_option Elab.async false
set_option linter.unusedVariables false
namespace Mine
/-! what the program reckons, in plain words -/
noncomputable def byteOf (k : Int) : UInt8 := k.toNat.toUInt8
noncomputable def be32 (n : Int) : List UInt8 := [byteOf (n / 16777216 % 256), byteOf (n / 65536 % 256), byteOf (n / 256 % 256), byteOf (n % 256)]
noncomputable def at8 (x : List UInt8) (i : Nat) : Int := (((x.getD i 0).toNat : Nat) : Int)
noncomputable def val32 (x : List UInt8) (i : Int) : Int := at8 x i.toNat * 16777216 + at8 x (i + 1).toNat * 65536 + at8 x (i + 2).toNat * 256 + at8 x (i + 3).toNat
noncomputable def bin (x : List UInt8) : List Int := x.map fun c => (c.toNat : Int)
theorem bin_arr (x : List UInt8) : KBw.bInts x.toArray = bin x := rfl
noncomputable def aStep (p : Int × Int) (k : Int) : Int × Int := ((p.1 + k) % 65521, (p.2 + (p.1 + k) % 65521) % 65521)
noncomputable def adlF (x : List Int) (p : Int × Int) : Int × Int := x.foldl aStep p
noncomputable def adlV (x : List Int) (n : Int) : Int := (adlF x (n % 65536, n / 65536)).2 * 65536 + (adlF x (n % 65536, n / 65536)).1
/-- a bit's turn of the division -/
noncomputable def tStep (c : Int) : Int := if c % 2 = 0 then c / 2 else Builtin.bitXor (c / 2) 3988292384
noncomputable def tIter : Nat → Int → Int
  | 0, c => c
  | n + 1, c => tStep (tIter n c)
noncomputable def crcTab : List Int := [0, 1, 2, 3, 4, 5, 6, 7, 8, 9, 10, 11, 12, 13, 14, 15].map (tIter 4)
noncomputable def nib (c : Int) : Int := Builtin.bitXor (crcTab.getD (c % 16).toNat 0) (c / 16)
noncomputable def cStep (c k : Int) : Int := nib (nib (Builtin.bitXor c k))
noncomputable def crcF (x : List Int) (c : Int) : Int := x.foldl cStep c
noncomputable def crcV (x : List Int) (c : Int) : Int := Builtin.bitXor (crcF x (Builtin.bitXor c 4294967295)) 4294967295
/-- the law's own division -/
noncomputable def dStep (o : Int) (r : Int) (i : Nat) : Int := if (r + o / 2 ^ i) % 2 = 1 then Builtin.bitXor (r / 2) 3988292384 else r / 2
noncomputable def dOct (r o : Int) : Int := (List.range 8).foldl (dStep o) r
noncomputable def dF (x : List Int) : Int := x.foldl dOct 4294967295
noncomputable def checkV (x : List Int) : Int := 4294967295 - dF x
/-- the law's own sums -/
noncomputable def sStep (p : Int × Int) (k : Int) : Int × Int := (p.1 + k, p.2 + (p.1 + k))
noncomputable def sumF (x : List Int) : Int × Int := x.foldl sStep (1, 0)
noncomputable def sumV (x : List Int) : Int := (sumF x).2 % 65521 * 65536 + (sumF x).1 % 65521

theorem tStep_bounds {c : Int} (h0 : 0 ≤ c) (h1 : c < 4294967296) : 0 ≤ tStep c ∧ tStep c < 4294967296 := by
  unfold tStep
  split
  · omega
  · exact xor_bounds (k := 32) (m := 4294967296) (by decide) (by omega) (by omega) (by omega) (by omega)
theorem tIter_bounds {c : Int} (h0 : 0 ≤ c) (h1 : c < 4294967296) : ∀ n, 0 ≤ tIter n c ∧ tIter n c < 4294967296
  | 0 => ⟨h0, h1⟩
  | n + 1 => tStep_bounds (tIter_bounds h0 h1 n).1 (tIter_bounds h0 h1 n).2
theorem crcTab_bounds {k : Int} (h : k ∈ crcTab) : 0 ≤ k ∧ k < 4294967296 := by
  obtain ⟨b, hb, rfl⟩ := List.mem_map.mp h
  have hb' : 0 ≤ b ∧ b < 4294967296 := by simp only [List.mem_cons, List.mem_nil_iff, or_false] at hb; omega
  exact tIter_bounds hb'.1 hb'.2 4
theorem xor32 {x y : Int} (hx0 : 0 ≤ x) (hx : x < 4294967296) (hy0 : 0 ≤ y) (hy : y < 4294967296) : 0 ≤ Builtin.bitXor x y ∧ Builtin.bitXor x y < 4294967296 :=
  xor_bounds (k := 32) (m := 4294967296) (by decide) hx0 hx hy0 hy
theorem crcTab_len : crcTab.length = 16 := rfl
theorem crcTab_get (i : Int) (h0 : 0 ≤ i) (h1 : i < 16) : 0 ≤ crcTab.getD i.toNat 0 ∧ crcTab.getD i.toNat 0 < 4294967296 := by
  have hl : i.toNat < crcTab.length := by rw [crcTab_len]; omega
  rw [List.getD_eq_getElem?_getD, List.getElem?_eq_getElem hl]
  exact crcTab_bounds (List.getElem_mem hl)
theorem nib_bounds {c : Int} (h0 : 0 ≤ c) (h1 : c < 4294967296) : 0 ≤ nib c ∧ nib c < 4294967296 := by
  have hg := crcTab_get (c % 16) (by omega) (by omega)
  exact xor32 hg.1 hg.2 (by omega) (by omega)
theorem cStep_bounds {c k : Int} (h0 : 0 ≤ c) (h1 : c < 4294967296) (k0 : 0 ≤ k) (k1 : k < 256) : 0 ≤ cStep c k ∧ cStep c k < 4294967296 := by
  have h := xor32 h0 h1 k0 (by omega : k < 4294967296)
  have h2 := nib_bounds h.1 h.2
  exact nib_bounds h2.1 h2.2
end Mine
end
section
open PySem PySem.W PyProof.Rows
set_option Elab.async false
set_option linter.unusedVariables false
namespace Mine
theorem bin_inj : ∀ {a b : List UInt8}, bin a = bin b → a = b
  | [], [], _ => rfl
  | [], _ :: _, h => by cases h
  | _ :: _, [], h => by cases h
  | a :: as, b :: bs, h => by
    have h' : (a.toNat : Int) :: bin as = (b.toNat : Int) :: bin bs := h
    have h1 := List.cons.inj h'
    have e : a.toNat = b.toNat := by exact_mod_cast h1.1
    rw [UInt8.toNat_inj.mp e, bin_inj h1.2]
theorem bin_len (x : List UInt8) : (bin x).length = x.length := by unfold bin; simp
section
variable {prog : Program} {w : World} {A : Around} {E : Value → Shared → Prop} {s : Shared} {value slice : PySem.Expr} {x : List UInt8} {t : Tok} {h₀ : Heap} {L : Addr} {m : PySem.Str → Option Value} {news : List (Addr × Obj)} {l u : Value} {lo hi : Option Int} {Q : Value → Shared → Prop}
theorem slice_L (hF : Fr h₀ L s.heap m) (hN : News h₀ L s.heap news) (hl : IsPart l lo) (hu : IsPart u hi) (hz : x.length ≤ 1000000)
    {y : List UInt8} (hy : y = (x.drop (lo.elim 0 (clipAt x.length))).take (hi.elim x.length (clipAt x.length) - lo.elim 0 (clipAt x.length)))
    (h : ∀ h' t' k, Fr h₀ L h' m → News h₀ L h' news → Q (.bytes y.toArray t') { s with heap := h', toks := k })
    (hs : subscripted slice false (.bytes x.toArray t) (.ref s.heap.objs.size) = operate [.ref s.heap.objs.size, .bytes x.toArray t] (getItem (.bytes x.toArray t) (.ref s.heap.objs.size)) := by with_unfolding_all rfl)
    (ht : ∀ r, letTemporaryGo value (.bytes x.toArray t) r = pure () := by intro _; with_unfolding_all rfl) :
    wpAny (model prog w) A (subscriptTail value slice (.bytes x.toArray t) (.ref s.heap.objs.size)) Q E { s with heap := s.heap.push { cls := .type "slice", data := .fields #[l, u, .none] } } := by
  refine KBc.slice_K hF hN (bin_arr x) hl hu (by rw [bin_len]; omega) (fun h' t' k F' N' e => ?_) hs ht
  have : KBy.picked x.toArray lo hi = y.toArray := by
    have e2 : bin (KBy.picked x.toArray lo hi).toList = bin y := by
      rw [hy]
      refine Eq.trans e ?_
      rw [bin_len]
      unfold bin
      rw [List.map_take, List.map_drop]
    rw [← bin_inj e2]
  rw [this]
  exact h h' t' k F' N'
theorem len_L (hz : x.length ≤ 1000000) (h : ∀ k : Int, k = (x.length : Int) → Q (.int k (s.toks + 1)) { s with toks := s.toks + 1 + 1 }) : wpAny (model prog w) A (call (.builtin "len") [.bytes x.toArray t]) Q E s :=
  len_bytes (by rw [List.size_toArray]; omega) (h _ (by rw [List.size_toArray]))
end
theorem cut_fs {x : List UInt8} {a b : Int} (h0 : 0 ≤ a) (h1 : a ≤ b) : (x.drop a.toNat).take (b - a).toNat = (x.drop ((some a : Option Int).elim 0 (clipAt x.length))).take ((some b : Option Int).elim x.length (clipAt x.length) - (some a : Option Int).elim 0 (clipAt x.length)) := by
  show _ = (x.drop (clipAt x.length a)).take (clipAt x.length b - clipAt x.length a)
  have e1 := clipAt_min (n := x.length) h0
  have e2 := clipAt_min (n := x.length) (y := b) (by omega)
  by_cases hc : (x.length : Int) < a
  · rw [if_pos hc] at e1
    rw [List.drop_eq_nil_of_le (by omega), List.drop_eq_nil_of_le (by omega)]; simp
  · rw [if_neg hc] at e1
    have e3 : clipAt x.length a = a.toNat := by omega
    rw [e3]
    by_cases hd : (x.length : Int) < b
    · rw [if_pos hd] at e2
      rw [List.take_of_length_le (by rw [List.length_drop]; omega), List.take_of_length_le (by rw [List.length_drop]; omega)]
    · rw [if_neg hd] at e2
      congr 1
      omega
theorem cut_fa {x : List UInt8} {a c : Int} (h0 : 0 ≤ a) (h1 : 0 ≤ c) : (x.drop a.toNat).take c.toNat = (x.drop ((some a : Option Int).elim 0 (clipAt x.length))).take ((some (a + c) : Option Int).elim x.length (clipAt x.length) - (some a : Option Int).elim 0 (clipAt x.length)) := by
  rw [← cut_fs h0 (by omega)]
  congr 2
  omega
theorem cut_f {x : List UInt8} {a : Int} (h0 : 0 ≤ a) : x.drop a.toNat = (x.drop ((some a : Option Int).elim 0 (clipAt x.length))).take ((none : Option Int).elim x.length (clipAt x.length) - (some a : Option Int).elim 0 (clipAt x.length)) := by
  show _ = (x.drop (clipAt x.length a)).take (x.length - clipAt x.length a)
  have e1 := clipAt_min (n := x.length) h0
  rw [List.take_of_length_le (by rw [List.length_drop]; omega)]
  by_cases hc : (x.length : Int) < a
  · rw [if_pos hc] at e1
    rw [List.drop_eq_nil_of_le (by omega), List.drop_eq_nil_of_le (by omega)]
  · rw [if_neg hc] at e1
    congr 1
    omega
theorem cut_t {x : List UInt8} {b : Int} (h0 : 0 ≤ b) : x.take b.toNat = (x.drop ((none : Option Int).elim 0 (clipAt x.length))).take ((some b : Option Int).elim x.length (clipAt x.length) - (none : Option Int).elim 0 (clipAt x.length)) := by
  show _ = (x.drop 0).take (clipAt x.length b - 0)
  have e2 := clipAt_min (n := x.length) (y := b) (by omega)
  rw [List.drop_zero, Nat.sub_zero]
  by_cases hd : (x.length : Int) < b
  · rw [if_pos hd] at e2
    rw [List.take_of_length_le (by omega), List.take_of_length_le (by omega)]
  · rw [if_neg hd] at e2
    congr 1
    omega
theorem cut_n {x : List UInt8} {b : Int} (h0 : b < 0) : x.take (x.length + b).toNat = (x.drop ((none : Option Int).elim 0 (clipAt x.length))).take ((some b : Option Int).elim x.length (clipAt x.length) - (none : Option Int).elim 0 (clipAt x.length)) := by
  show _ = (x.drop 0).take (clipAt x.length b - 0)
  have e2 := clipAt_cast x.length b
  rw [if_pos h0] at e2
  rw [List.drop_zero, Nat.sub_zero]
  congr 1
  omega
end Mine
end
section
open PySem PySem.W PyProof.Rows
set_option Elab.async false
set_option linter.unusedVariables false
namespace Mine
/-! the stream of stored blocks -/
noncomputable def blkB (last : Bool) (p : List UInt8) : List UInt8 :=
  byteOf (if last then 1 else 0) :: byteOf ((p.length : Int) % 256) :: byteOf ((p.length : Int) / 256) :: byteOf (255 - (p.length : Int) % 256) :: byteOf (255 - (p.length : Int) / 256) :: p
noncomputable def strm (most : Nat) : Nat → List UInt8 → List UInt8
  | 0, _ => []
  | f + 1, y => if y.length ≤ most then blkB true y else blkB false (y.take most) ++ strm most f (y.drop most)
noncomputable def bodyV (x : List UInt8) (most : Nat) : List UInt8 := byteOf 120 :: byteOf 1 :: strm most (x.length + 1) x
noncomputable def streamV (x : List UInt8) (most : Nat) (n : Int) : List UInt8 := bodyV x most ++ be32 n
theorem byteOf_val {k : Int} (h0 : 0 ≤ k) (h1 : k < 256) : ((byteOf k).toNat : Int) = k := by
  unfold byteOf
  rw [Nat.toUInt8_eq, UInt8.toNat_ofNat']
  omega
theorem bin_append (a b : List UInt8) : bin (a ++ b) = bin a ++ bin b := List.map_append
theorem bin_cons (a : UInt8) (b : List UInt8) : bin (a :: b) = (a.toNat : Int) :: bin b := rfl
theorem bin_blk (last : Bool) (p : List UInt8) (hp : p.length < 65536) : bin (blkB last p) =
    [(if last then 1 else 0), (p.length : Int) % 256, (p.length : Int) / 256, 255 - (p.length : Int) % 256, 255 - (p.length : Int) / 256] ++ bin p := by
  unfold blkB
  simp only [bin_cons]
  rw [byteOf_val (by split <;> decide) (by split <;> decide), byteOf_val (by omega) (by omega), byteOf_val (by omega) (by omega), byteOf_val (by omega) (by omega), byteOf_val (by omega) (by omega)]
  rfl
theorem blk_len (last : Bool) (p : List UInt8) : (blkB last p).length = p.length + 5 := rfl
theorem strm_len (most : Nat) (hm : 0 < most) : ∀ (f : Nat) (y : List UInt8), (strm most f y).length ≤ 6 * y.length + 5
  | 0, y => by simp [strm]
  | f + 1, y => by
    unfold strm
    split
    · rw [blk_len]; omega
    · have ih := strm_len most hm f (y.drop most)
      rw [List.length_append, blk_len, List.length_take]
      rw [List.length_drop] at ih
      omega
theorem bodyV_len (x : List UInt8) (most : Nat) (hm : 0 < most) : (bodyV x most).length ≤ 6 * x.length + 7 := by
  have := strm_len most hm (x.length + 1) x
  unfold bodyV
  simp only [List.length_cons]
  omega
/-- how far the stream is written -/
def StreamP (x : List UInt8) (most : Nat) (vs : List Value) (a : Int) (fu : Nat) : Prop :=
  (0 ≤ a ∧ a ≤ (x.length : Int) ∧ (a < (x.length : Int) ∨ a = 0) ∧ ∃ f : List UInt8, IntsAre vs (bin f) ∧ f ++ strm most fu (x.drop a.toNat) = bodyV x most ∧ (x.drop a.toNat).length < fu) ∨
  ((x.length : Int) ≤ a ∧ 0 < a ∧ IntsAre vs (bin (bodyV x most)))
theorem StreamP.start (x : List UInt8) (most : Nat) (t u : Tok) : StreamP x most [.int 120 t, .int 1 u] 0 (x.length + 1) :=
  .inl ⟨by omega, by omega, .inr rfl, [byteOf 120, byteOf 1], IntsAre.cons _ _ (IntsAre.cons _ _ IntsAre.nil), rfl, by simp⟩
theorem strm_succ {most fu : Nat} {y : List UInt8} (h : y.length < fu) : strm most fu y = if y.length ≤ most then blkB true y else blkB false (y.take most) ++ strm most (fu - 1) (y.drop most) := by
  cases fu with
  | zero => omega
  | succ f => rfl
theorem min_le {k m : Nat} (h : k ≤ m) : ((min m k : Nat) : Int) = (k : Int) := by rw [Nat.min_eq_right h]
theorem min_gt {k m : Nat} (h : ¬ k ≤ m) : ((min m k : Nat) : Int) = (m : Int) := by rw [Nat.min_eq_left (Nat.le_of_lt (Nat.lt_of_not_le h))]
theorem StreamP.step {x : List UInt8} {most : Int} {vs : List Value} {a k fl a' : Int} {fu : Nat} {f : List UInt8} (h0 : 0 < most) (h1 : most ≤ 65535) (ha0 : 0 ≤ a) (ha1 : a ≤ (x.length : Int)) (ha2 : a < (x.length : Int) ∨ a = 0)
    (hT : f ++ strm most.toNat fu (x.drop a.toNat) = bodyV x most.toNat) (hfu : (x.drop a.toNat).length < fu)
    (hk : k = ((min most.toNat (x.length - a.toNat) : Nat) : Int)) (ha' : a' = a + if k > 1 then k else 1) (hfl : fl = if decide ((x.length : Int) ≤ a') = true then 1 else 0)
    (hv : IntsAre vs (bin f ++ [fl, k % 256, k / 256, 255 - k % 256, 255 - k / 256] ++ bin ((x.drop a.toNat).take most.toNat))) :
    StreamP x most.toNat vs a' (fu - 1) ∧ ((x.length : Int) + 1 - a').toNat < ((x.length : Int) + 1 - a).toNat := by
  have hyl : (x.drop a.toNat).length = x.length - a.toNat := List.length_drop ..
  have haA : (1 < k → a' = a + k) ∧ (k ≤ 1 → a' = a + 1) := by
    refine ⟨fun h => ?_, fun h => ?_⟩
    · rw [ha', if_pos h]
    · rw [ha', if_neg (Int.not_lt.mpr h)]
  have hflA : (x.length : Int) ≤ a' → fl = 1 := fun h => by rw [hfl, if_pos (by simpa using h)]
  have hflB : ¬ (x.length : Int) ≤ a' → fl = 0 := fun h => by rw [hfl, if_neg (by simpa using h)]
  clear ha' hfl
  rw [strm_succ hfu] at hT
  rw [← hyl] at hk
  have hla : ((x.drop a.toNat).length : Int) = (x.length : Int) - a := by clear hT hfu hk hv haA hflA hflB ha2 h0 h1; omega
  obtain ⟨L, hL⟩ : ∃ L : Int, L = (x.length : Int) := ⟨_, rfl⟩
  by_cases hc : (x.drop a.toNat).length ≤ most.toNat
  · rw [if_pos hc] at hT
    have hk2 : k = ((x.drop a.toNat).length : Int) := hk.trans (min_le hc)
    have hc2 : ((x.drop a.toNat).length : Int) ≤ most := by clear hT hfu hk hv haA hflA hflB ha2 hla hyl hk2; omega
    have hd : (x.length : Int) ≤ a' ∧ a + 1 ≤ a' := by clear hT hv hk hc hflA hflB hfu hyl; omega
    have hfl1 : fl = 1 := hflA hd.1
    refine ⟨.inr ⟨hd.1, ?_, ?_⟩, ?_⟩
    · clear hT hv hk hc hflA hflB hfu hyl haA hk2 hfl1; omega
    · rw [← hT, bin_append, bin_blk true _ (by clear hT hv hk hc hflA hflB hfu hyl haA hk2 hfl1 hd; omega), ← hk2, if_pos rfl]
      rw [List.take_of_length_le hc, hfl1, List.append_assoc] at hv
      exact hv
    · clear hT hv hk hc hflA hflB hfu hyl haA hk2 hfl1; omega
  · rw [if_neg hc] at hT
    have hm : ((most.toNat : Nat) : Int) = most := Int.toNat_of_nonneg (Int.le_of_lt h0)
    have hk2 : k = most := (hk.trans (min_gt hc)).trans hm
    have hc2 : most < ((x.drop a.toNat).length : Int) := by clear hT hfu hk hv haA hflA hflB ha2 hla hyl hk2; omega
    have hd : a' = a + most := by clear hT hv hk hc hflA hflB hfu hyl hla hc2; omega
    have hd2 : ¬ (x.length : Int) ≤ a' := by clear hT hv hk hc hflA hflB hfu hyl haA hk2; omega
    have hfl0 : fl = 0 := hflB hd2
    have htl : ((x.drop a.toNat).take most.toNat).length = most.toNat := by rw [List.length_take]; exact Nat.min_eq_left (Nat.le_of_lt (Nat.lt_of_not_le hc))
    have ht : a.toNat + most.toNat = a'.toNat := by clear hT hv hk hc hflA hflB hfu hyl haA hk2 hfl0 htl hd2 hc2 hla; omega
    have hdd : (x.drop a.toNat).drop most.toNat = x.drop a'.toNat := by rw [List.drop_drop, ht]
    clear haA hflA hflB
    refine ⟨.inl ⟨?_, ?_, .inl ?_, f ++ blkB false ((x.drop a.toNat).take most.toNat), ?_, ?_, ?_⟩, ?_⟩
    · clear hT hv hk hc hfu hyl hk2 hfl0 htl hdd hd2 hc2 hla; omega
    · clear hT hv hk hc hfu hyl hk2 hfl0 htl hdd hc2 hla; omega
    · clear hT hv hk hc hfu hyl hk2 hfl0 htl hdd hc2 hla; omega
    · rw [bin_append, bin_blk false _ (by clear hT hv hk hc hfu hyl hk2 hfl0 hdd hd2 hc2 hla hd ht; omega), htl]
      rw [hfl0, List.append_assoc] at hv
      rw [hm, ← hk2]
      rw [hk2] at hv ⊢
      exact hv
    · rw [List.append_assoc, ← hdd]; exact hT
    · rw [← hdd, List.length_drop]; clear hT hv hk hyl hk2 hfl0 hdd hd2 hc2 hla hd ht htl; omega
    · clear hT hv hk hc hfu hyl hk2 hfl0 htl hdd hc2 hla ht; omega
theorem stored_step {x b : List UInt8} {most a k : Int} {fu : Nat} (h0 : 0 < most) (h1 : most ≤ 65535) (ha0 : 0 ≤ a) (ha1 : a ≤ (x.length : Int)) (ha2 : a < (x.length : Int) ∨ a = 0)
    (hT : b ++ strm most.toNat fu (x.drop a.toNat) = bodyV x most.toNat) (hfu : (x.drop a.toNat).length < fu) (hk : k = ((min most.toNat (x.length - a.toNat) : Nat) : Int)) :
    (a + k = (x.length : Int) → b ++ ([1, k % 256, k / 256, 255 - k % 256, 255 - k / 256] : List Int).map byteOf ++ (x.drop a.toNat).take most.toNat = bodyV x most.toNat) ∧
    (a + k ≠ (x.length : Int) → (b ++ ([0, k % 256, k / 256, 255 - k % 256, 255 - k / 256] : List Int).map byteOf ++ (x.drop a.toNat).take most.toNat) ++ strm most.toNat (fu - 1) (x.drop (a + k).toNat) = bodyV x most.toNat ∧
      (x.drop (a + k).toNat).length < fu - 1 ∧ a + k < (x.length : Int) ∧ a < a + k) := by
  have hyl : (x.drop a.toNat).length = x.length - a.toNat := List.length_drop ..
  rw [strm_succ hfu] at hT
  rw [← hyl] at hk
  have hla : ((x.drop a.toNat).length : Int) = (x.length : Int) - a := by clear hT hfu hk ha2 h0 h1; omega
  by_cases hc : (x.drop a.toNat).length ≤ most.toNat
  · rw [if_pos hc] at hT
    have hk2 : k = ((x.drop a.toNat).length : Int) := hk.trans (min_le hc)
    refine ⟨fun _ => ?_, fun hne => absurd (by rw [hk2, hla]; clear hT hk hk2 hyl hfu ha2; omega) hne⟩
    rw [← hT, List.take_of_length_le hc, List.append_assoc]
    unfold blkB
    rw [← hk2]
    rfl
  · rw [if_neg hc] at hT
    have hm : ((most.toNat : Nat) : Int) = most := Int.toNat_of_nonneg (Int.le_of_lt h0)
    have hk2 : k = most := (hk.trans (min_gt hc)).trans hm
    have hc2 : most < ((x.drop a.toNat).length : Int) := by clear hT hfu hk ha2 hla hyl hk2; omega
    have htl : ((x.drop a.toNat).take most.toNat).length = most.toNat := by rw [List.length_take]; exact Nat.min_eq_left (Nat.le_of_lt (Nat.lt_of_not_le hc))
    have ht : a.toNat + most.toNat = (a + k).toNat := by clear hT hk hc hfu hyl htl hc2 hla; omega
    have hdd : (x.drop a.toNat).drop most.toNat = x.drop (a + k).toNat := by rw [List.drop_drop, ht]
    have hlt : a + k < (x.length : Int) := by clear hT hk hc hfu hyl htl ht hdd ha2; omega
    refine ⟨fun he => absurd he (Int.ne_of_lt hlt), fun hne => ⟨?_, ?_, hlt, ?_⟩⟩
    · rw [← hT, ← hdd]
      unfold blkB
      have e : ((((x.drop a.toNat).take most.toNat).length : Nat) : Int) = k := by rw [htl, hm, hk2]
      rw [e]
      simp only [List.append_assoc, List.map_cons, List.map_nil, List.cons_append, List.nil_append]
      rfl
    · rw [← hdd, List.length_drop]; clear hT hk hyl hk2 hdd hc2 hla hlt ht htl hne; omega
    · clear hT hk hc hfu hyl htl ht hdd hlt hc2 hla hm ha1 ha2; omega
/-- the size of a block, if it is one -/
noncomputable def bsz (x : List UInt8) (a : Int) : Option Int :=
  if (x.length : Int) < a + 5 then none
  else if at8 x a.toNat / 2 ≠ 0 then none
  else if at8 x (a + 3).toNat + at8 x (a + 4).toNat * 256 ≠ 65535 - (at8 x (a + 1).toNat + at8 x (a + 2).toNat * 256) ∨ (x.length : Int) < a + 5 + (at8 x (a + 1).toNat + at8 x (a + 2).toNat * 256) then none
  else some (at8 x (a + 1).toNat + at8 x (a + 2).toNat * 256)
/-- what a stream leads back to -/
noncomputable def unsF : Nat → List UInt8 → Int → List UInt8 → Option (List UInt8 × Int)
  | 0, _, _, _ => none
  | f + 1, x, a, b => match bsz x a with
    | none => none
    | some z => if at8 x a.toNat = 1 then some (b ++ (x.drop (a + 5).toNat).take z.toNat, a + 5 + z) else unsF f x (a + 5 + z) (b ++ (x.drop (a + 5).toNat).take z.toNat)
noncomputable def unsX (x : List UInt8) : Option (List UInt8 × Int) := unsF (x.length + 1) x 2 []
noncomputable def unsV (x : List UInt8) : Option (List UInt8) := match unsX x with
  | none => none
  | some (f, a) => if a + 4 ≠ (x.length : Int) ∨ val32 x a ≠ adlV (bin f) 1 then none else some f
/-- how far a stream is led back -/
def UnsP (x b : List UInt8) (a : Int) (last : Bool) (fu : Nat) : Prop :=
  0 ≤ a ∧ a ≤ (x.length : Int) ∧ (b.length : Int) ≤ a ∧ ((last = false ∧ unsF fu x a b = unsX x ∧ (x.length : Int) - a < fu) ∨ (last = true ∧ unsX x = some (b, a)))
theorem bsz_some {x : List UInt8} {a z : Int} (h : bsz x a = some z) (h0 : 0 ≤ a) : 0 ≤ z ∧ a + 5 + z ≤ (x.length : Int) ∧ (at8 x a.toNat = 0 ∨ at8 x a.toNat = 1) ∧ z = at8 x (a + 1).toNat + at8 x (a + 2).toNat * 256 := by
  unfold bsz at h
  have h1 : 0 ≤ at8 x (a + 1).toNat := by unfold at8; omega
  have h2 : 0 ≤ at8 x (a + 2).toNat := by unfold at8; omega
  have h3 : 0 ≤ at8 x a.toNat := by unfold at8; omega
  split at h
  · cases h
  · split at h
    · cases h
    · split at h
      · cases h
      · cases h
        omega
theorem UnsP.fail {x b : List UInt8} {a : Int} {fu : Nat} (h : UnsP x b a false fu) (e : bsz x a = none) : unsV x = none := by
  obtain ⟨h0, h1, h2, ⟨_, h3, h4⟩ | ⟨h3, _⟩⟩ := h
  · obtain ⟨f, rfl⟩ : ∃ f, fu = f + 1 := ⟨fu - 1, by omega⟩
    unfold unsF at h3
    rw [e] at h3
    unfold unsV
    rw [← h3]
  · cases h3
theorem UnsP.step {x b : List UInt8} {a z k : Int} {fu : Nat} (h : UnsP x b a false fu) (e : bsz x a = some z) (hk : k = at8 x a.toNat) :
    UnsP x (b ++ (x.drop (a + 5).toNat).take z.toNat) (a + 5 + z) (decide (k = 1)) (fu - 1) := by
  obtain ⟨h0, h1, h2, ⟨_, h3, h4⟩ | ⟨h3, _⟩⟩ := h
  · obtain ⟨f, rfl⟩ : ∃ f, fu = f + 1 := ⟨fu - 1, by clear h3 e hk h2; omega⟩
    obtain ⟨z0, z1, _, _⟩ := bsz_some e h0
    rw [unsF, e] at h3
    refine ⟨by clear h3 e hk h4 h2; omega, z1, ?_, ?_⟩
    · clear h3 e hk h4; rw [List.length_append, List.length_take, List.length_drop]; omega
    · by_cases hc : k = 1
      · refine .inr ⟨decide_eq_true hc, ?_⟩
        rw [← h3]
        show (if at8 x a.toNat = 1 then _ else _) = _
        rw [if_pos (hk.symm.trans hc)]
      · refine .inl ⟨decide_eq_false hc, ?_, by clear h3 e hk hc h2; omega⟩
        rw [← h3]
        show _ = (if at8 x a.toNat = 1 then _ else _)
        rw [if_neg (fun q => hc (hk.trans q))]
        rfl
  · cases h3
end Mine
end
section
open PySem PySem.W PyProof.Rows PyProof.V PySem.Calls
set_option Elab.async false
set_option linter.unusedVariables false
set_option maxRecDepth 100000
namespace Mine
section
variable {prog : Program} {w : World} {A : Around} {E : Value → Shared → Prop} {s : Shared} {b : Array UInt8} {t : Tok}
theorem hint_bytes {Q : Bool → Shared → Prop} (h : Q false s) : wpAny (model prog w) A (Builtin.List.listLengthHint (.bytes b t)) Q E s := by
  have hT := typeIs_bytes s b t
  unfold Builtin.List.listLengthHint
  refine wpAny_bind (wpAny_specialOf hT FB.slot_bytes_len.lookup ?_)
  generalize hid : ("bytes.__len__" : String) = id0
  wp_delta
  rw [show splitId id0 = some ("bytes", "__len__") from by subst hid; decide +kernel]
  subst hid
  refine wpAny_bind (wpAny_isInstance (T := "bytes") (b := true) hT (by rw [isSubtype_type]; kernel_rfl) ?_)
  refine wpAny_ite_split (fun hab => absurd hab (by decide)) (fun _ => ?_)
  refine wpAny_ite_split (fun _ => ?_) (fun hab => absurd (by decide +kernel) hab)
  refine wpAny_bind (wpAny_typeOf hT ?_)
  exact wpAny_pure h
def ByteAt (b : Array UInt8) (i : Nat) (v : Value) : Prop := ∃ c u, b[i]? = some c ∧ v = .int (c.toNat : Int) u
theorem lb_extend {R : Result → Shared → Prop} (hh : A.handled = none) (S : Addr) (res : Value) (c₀ : Nat) (hS : s.heap.get? S = some { cls := .type "list", data := .seq #[] c₀ })
    (hR : ∀ h' tk acc' c', (∀ b o, b ≠ S → s.heap.get? b = some o → h'.get? b = some o) → h'.get? S = some { cls := .type "list", dict := none, data := .seq acc' c', slots := #[] } → ItemsOf (ByteAt b) acc' b.size → R (.ok (.ret res)) { s with heap := h', toks := tk }) (hn : b.size ≤ sizeLine) :
    wpAny (model prog w) A.in1 (Builtin.List.listExtendWith (.ref S) (.bytes b t) res)
      (fun fin s' => match fin with | .done f => R (.ok f) s' | .again c' => c'.quiet = true ∧ codeAny (model prog w) A c' R s') (fun e s' => R (.error e) s') s := by
  have hSI : S ≠ s.heap.objs.size := Nat.ne_of_lt (Heap.lt_size hS)
  have hSf : S ∉ [s.heap.objs.size] := by simp only [List.mem_cons, List.not_mem_nil, or_false]; exact hSI
  have W := KBw.walks (prog := prog) (w := w) (A := A.in1) hh s.heap.objs.size b t
  have st : KBw.IsBytesIter (s.heap.push { cls := .type "bytes_iterator", data := .fields #[.bytes b t, .int 0 0] }) s.heap.objs.size b t 0 := ⟨_, Heap.get?_push_size _ rfl, rfl, rfl⟩
  have key : ∀ (h : Heap) (c₁ tk : Nat), KBw.IsBytesIter h s.heap.objs.size b t 0 → (∀ b o, b ≠ S → s.heap.get? b = some o → h.get? b = some o) →
      h.get? S = some { cls := .type "list", data := .seq #[] c₁ } → codeAny (model prog w) A (.builtin "list.extend.loop" ⟨[.ref S, .ref s.heap.objs.size, res], []⟩) R { s with heap := h, toks := tk } := by
    intro h c₁ tk hst hk hS₁
    refine codeAny_extend_loopS W.toS hn S hSf res b.size 0 _ #[] c₁ rfl (Nat.zero_le _) hst hS₁ (ItemsOf.nil _) fun s' acc' c' hm hS' hacc => ?_
    rw [Moved.eq_with hm]
    refine hR s'.heap s'.toks acc' c' (fun b o hb e => hm.heap b o (fun hmem => ?_) (hk b o hb e)) hS' hacc
    rcases List.mem_cons.mp hmem with e' | hmem
    · exact hb e'
    · exact absurd (Heap.lt_size e) (by rw [List.mem_singleton.mp hmem]; exact Nat.lt_irrefl _)
  unfold Builtin.List.listExtendWith
  refine wpAny_bind (wpAny_typeOf (T := "bytes") (typeIs_bytes s b t) ?_)
  have h1 : Builtin.List.listSameRef (.ref S) (.bytes b t) = false := rfl
  have h2 : (Value.type "bytes" == Value.type "list") = false := by decide
  have h3 : (Value.type "bytes" == Value.type "tuple") = false := by decide
  simp only [h1, h2, h3, Bool.or_false, Bool.false_eq_true, if_false]
  refine wpAny_bind (KBw.pyIter_bytes ?_)
  have hS₁ := Heap.get?_push_of_some { cls := .type "bytes_iterator", data := .fields #[.bytes b t, .int 0 0] } hS
  refine wpAny_bind (wpAny_holding (hint_bytes ?_))
  refine wpAny_ite_split (fun hab => absurd hab (by decide)) (fun _ => wpAny_pure ⟨plainId_quiet PySem.F.plain_extend_loop _, key _ c₀ _ st (fun b o _ e => Heap.get?_push_of_some _ e) hS₁⟩)
theorem lb_init {R : Result → Shared → Prop} (hh : A.handled = none) (S : Addr) (hS : s.heap.get? S = some { cls := .type "list", data := .seq #[] })
    (hR : ∀ h' tk acc' c', (∀ b o, b ≠ S → s.heap.get? b = some o → h'.get? b = some o) → h'.get? S = some { cls := .type "list", dict := none, data := .seq acc' c', slots := #[] } → ItemsOf (ByteAt b) acc' b.size → R (.ok (.ret .none)) { s with heap := h', toks := tk }) (hn : b.size ≤ sizeLine) :
    wpAny (model prog w) A.in1 (Builtin.«list.__init__» ⟨[.ref S, .bytes b t], []⟩)
      (fun fin s' => match fin with | .done f => R (.ok f) s' | .again c' => c'.quiet = true ∧ codeAny (model prog w) A c' R s') (fun e s' => R (.error e) s') s := by
  show wpAny _ _ (do let old ← Builtin.List.listItems (.ref S); Builtin.List.listUpdate (.ref S) (fun _ => #[]); letGo old.toList.reverse; Builtin.List.listExtendWith (.ref S) (.bytes b t) .none) _ _ s
  refine wpAny_bind ?_
  unfold Builtin.List.listItems
  refine wpAny_bind (wpAny_seqItems hS rfl (wpAny_pure ?_))
  show wpAny _ _ (updateSeq S (fun _ => #[]) >>= fun _ => letGo (#[] : Array Value).toList.reverse >>= fun _ => Builtin.List.listExtendWith (.ref S) (.bytes b t) .none) _ _ s
  refine wpAny_bind (wpAny_updateSeq hS rfl ?_)
  have hS₂ := Heap.get?_update_self (Obj.mapSeq (fun _ => (#[] : Array Value))) hS rfl
  have oth : ∀ b o, b ≠ S → s.heap.get? b = some o → (s.heap.update S (Obj.mapSeq (fun _ => (#[] : Array Value)))).get? b = some o :=
    fun b o hb e => (Heap.get?_update_other _ _ (Ne.symm hb)).trans e
  refine wpAny_bind (wpAny_letGo ?_)
  refine lb_extend hh S .none _ hS₂ (fun h' tk acc' c' hk hS' hacc => ?_) hn
  exact hR h' tk acc' c' (fun b o hb e => hk b o hb (oth b o hb e)) hS' hacc
theorem lb_call {Q : Value → Shared → Prop} (hh : A.handled = none) (hn : b.size ≤ sizeLine)
    (hQ : ∀ h' tk acc' c', (∀ b o, s.heap.get? b = some o → h'.get? b = some o) → h'.get? s.heap.objs.size = some { cls := .type "list", dict := none, data := .seq acc' c', slots := #[] } → ItemsOf (ByteAt b) acc' b.size → Q (.ref s.heap.objs.size) { s with heap := h', toks := tk }) :
    wpAny (model prog w) A (call (.type "list") [.bytes b t]) Q E s := by
  refine callType_codes (Q₁ := fun obj s₁ => obj = .ref s.heap.objs.size ∧ s₁ = { s with heap := s.heap.push { cls := .type "list", data := .seq #[] } }) PySem.F.called_list (PySem.F.typeCall_list_1 _) PySem.F.entry_list_init
    (code_list_new _ ⟨rfl, rfl⟩) fun obj s₁ h₁ => ?_
  obtain ⟨rfl, rfl⟩ := h₁
  have hS : (s.heap.push { cls := .type "list", data := .seq #[] }).get? s.heap.objs.size = some { cls := .type "list", data := .seq #[] } := Heap.get?_push_size _ rfl
  refine ⟨⟨_, hS, rfl⟩, PySem.F.args_list_init_2 _ _, lb_init (A := A.in1) hh _ hS (fun h' tk acc' c' hk hS' hacc => ?_) hn⟩
  exact ⟨rfl, hQ h' tk acc' c' (fun b o e => hk b o (Nat.ne_of_lt (Heap.lt_size e)) (Heap.get?_push_of_some _ e)) hS' hacc⟩
theorem ints_of_at : ∀ (x : List UInt8) (vs : List Value), vs.length = x.length → (∀ j v, vs[j]? = some v → ByteAt x.toArray j v) → IntsAre vs (bin x)
  | [], [], _, _ => IntsAre.nil
  | [], _ :: _, h, _ => by simp at h
  | _ :: _, [], h, _ => by simp at h
  | c :: x, v :: vs, h, a => by
    obtain ⟨c', u, h1, h2⟩ := a 0 v rfl
    obtain rfl : c = c' := by simpa using h1
    rw [h2]
    refine IntsAre.cons _ _ (ints_of_at x vs (by simpa using h) fun j v hj => ?_)
    obtain ⟨c'', u', h3, h4⟩ := a (j + 1) v (by simpa using hj)
    exact ⟨c'', u', by simpa using h3, h4⟩
theorem lb_N {x : List UInt8} {Q : Value → Shared → Prop} {h₀ : Heap} {L : Addr} {m : Str → Option Value} {news : List (Addr × Obj)} (hh : A.handled = none) (F : Fr h₀ L s.heap m) (N : News h₀ L s.heap news) (hn : x.length ≤ 1000000)
    (h : ∀ (D : Addr) c h' tk (vs : List Value), Fr h₀ L h' m → News h₀ L h' ((D, listOf vs.toArray c) :: news) → (∀ q ∈ news, q.1 < D) → IntsAre vs (bin x) → Q (.ref D) { s with heap := h', toks := tk }) :
    wpAny (model prog w) A (call (.type "list") [.bytes x.toArray t]) Q E s := by
  have hz : x.toArray.size ≤ sizeLine := by rw [List.size_toArray, sizeLine_eq]; omega
  refine lb_call hh hz fun h' tk acc' c' hk hD hacc => h _ c' h' tk acc'.toList (F.keeps hk) (news_pushed F N hk (by first | (rw [Array.toArray_toList]; exact hD) | simpa using hD) rfl) (fun q hq => Heap.lt_size (N q hq).1) ?_
  refine ints_of_at x _ ?_ fun j v e => hacc.2 j v (by rw [← Array.getElem?_toList]; exact e)
  rw [Array.length_toList]
  have := hacc.1
  rwa [List.size_toArray] at this
theorem len_listB {l : Addr} {vs : List Value} {x : List UInt8} {Q : Value → Shared → Prop} (hl : s.heap.IsList l vs.toArray) (hv : IntsAre vs (bin x)) (hfit : x.length ≤ 1000000)
    (h : ∀ k : Int, k = (x.length : Int) → Q (.int k (s.toks + 1)) { s with toks := s.toks + 1 + 1 }) : wpAny (model prog w) A (call (.builtin "len") [.ref l]) Q E s := by
  have e : vs.length = x.length := by rw [hv.length, bin_len]
  refine len_list hl (by rw [List.size_toArray]; omega) (h _ ?_)
  rw [List.size_toArray, e]
end
theorem toUInt8_toNat (c : UInt8) : byteOf ((c.toNat : Nat) : Int) = c := by
  unfold byteOf
  rw [Int.toNat_natCast, Nat.toUInt8_eq, UInt8.ofNat_toNat]
theorem map_byteOf_bin (x : List UInt8) : (bin x).map byteOf = x := by
  unfold bin
  rw [List.map_map]
  conv => rhs; rw [← List.map_id x]
  exact List.map_congr_left fun c _ => toUInt8_toNat c
theorem byteArr_bin (x : List UInt8) (l : List Int) : byteArr (bin x ++ l) = (x ++ l.map byteOf).toArray := by
  show ((bin x ++ l).map byteOf).toArray = _
  rw [List.map_append, map_byteOf_bin]
theorem be32_map (n : Int) : (([3, 2, 1, 0] : List Int).map fun k => n / 256 ^ k.toNat % 256).map byteOf = be32 n := by
  simp only [List.map_cons, List.map_nil]
  rw [show (256 : Int) ^ Int.toNat 3 = 16777216 from by decide, show (256 : Int) ^ Int.toNat 2 = 65536 from by decide, show (256 : Int) ^ Int.toNat 1 = 256 from by decide, show (256 : Int) ^ Int.toNat 0 = 1 from by decide, Int.ediv_one]
  rfl
theorem bin_in {x : List UInt8} {k : Int} (h : k ∈ bin x) : 0 ≤ k ∧ k < 256 := KBw.ints_in (b := x.toArray) h
end Mine
end
section
open PySem PySem.W PyProof.Rows
set_option Elab.async false
set_option linter.unusedVariables false
namespace Mine
/-! the sums are one -/
theorem adlF_bounds' : ∀ (x : List Int) (p : Int × Int), 0 ≤ p.1 ∧ p.1 < 65536 ∧ 0 ≤ p.2 ∧ p.2 < 65536 → 0 ≤ (adlF x p).1 ∧ (adlF x p).1 < 65536 ∧ 0 ≤ (adlF x p).2 ∧ (adlF x p).2 < 65536
  | [], p, h => h
  | k :: x, p, h => adlF_bounds' x (aStep p k) (by unfold aStep; dsimp only; omega)
theorem adl_sum : ∀ (x : List Int) (p q : Int × Int), p.1 = q.1 % 65521 → p.2 = q.2 % 65521 → (adlF x p).1 = (x.foldl sStep q).1 % 65521 ∧ (adlF x p).2 = (x.foldl sStep q).2 % 65521
  | [], p, q, h1, h2 => ⟨h1, h2⟩
  | k :: x, p, q, h1, h2 => adl_sum x (aStep p k) (sStep q k) (by unfold aStep sStep; dsimp only; rw [h1]; omega) (by unfold aStep sStep; dsimp only; rw [h1, h2]; omega)
theorem adlV_sumV (x : List Int) : adlV x 1 = sumV x := by
  have h := adl_sum x (1 % 65536, 1 / 65536) (1, 0) (by decide) (by decide)
  unfold adlV sumV sumF
  rw [h.1, h.2]
theorem adlF_app (x y : List Int) (p : Int × Int) : adlF (x ++ y) p = adlF y (adlF x p) := List.foldl_append
theorem adlV_split (x y : List Int) : adlV y (adlV x 1) = sumV (x ++ y) := by
  rw [← adlV_sumV]
  have b := adlF_bounds' x (1 % 65536, 1 / 65536) (by decide)
  unfold adlV
  have e : (((adlF x (1 % 65536, 1 / 65536)).2 * 65536 + (adlF x (1 % 65536, 1 / 65536)).1) % 65536, ((adlF x (1 % 65536, 1 / 65536)).2 * 65536 + (adlF x (1 % 65536, 1 / 65536)).1) / 65536) = adlF x (1 % 65536, 1 / 65536) := by
    ext <;> dsimp only <;> omega
  rw [e, adlF_app]
theorem sumV_bounds (x : List Int) : 0 ≤ sumV x ∧ sumV x < 4294967296 := by unfold sumV; omega
theorem val32_be32 {n : Int} (h0 : 0 ≤ n) (h1 : n < 4294967296) : val32 (be32 n) 0 = n := by
  have e : val32 (be32 n) 0 = ((byteOf (n / 16777216 % 256)).toNat : Int) * 16777216 + ((byteOf (n / 65536 % 256)).toNat : Int) * 65536 + ((byteOf (n / 256 % 256)).toNat : Int) * 256 + ((byteOf (n % 256)).toNat : Int) := rfl
  rw [e, byteOf_val (by omega) (by omega), byteOf_val (by omega) (by omega), byteOf_val (by omega) (by omega), byteOf_val (by omega) (by omega)]
  omega
end Mine
end
section
open PySem PySem.W PyProof.Rows
set_option Elab.async false
set_option linter.unusedVariables false
namespace Mine
/-! the division, bit by bit -/
noncomputable def tN (c : Nat) : Nat := if c % 2 = 0 then c / 2 else (c / 2) ^^^ 3988292384
noncomputable def tNi : Nat → Nat → Nat
  | 0, c => c
  | n + 1, c => tN (tNi n c)
theorem tStep_nat (c : Nat) : tStep (c : Int) = (tN c : Int) := by
  unfold tStep tN
  by_cases h : c % 2 = 0
  · rw [if_pos h, if_pos (by omega)]; omega
  · rw [if_neg h, if_neg (by omega)]
    have : (c : Int) / 2 = ((c / 2 : Nat) : Int) := by omega
    rw [this, show (3988292384 : Int) = ((3988292384 : Nat) : Int) from rfl, bitXor_nat]
theorem tIter_nat (n c : Nat) : tIter n (c : Int) = (tNi n c : Int) := by
  induction n with
  | zero => rfl
  | succ n ih => show tStep (tIter n c) = _; rw [ih, tStep_nat]; rfl
theorem tN_xor (a b : Nat) : tN (a ^^^ b) = tN a ^^^ tN b := by
  have h2 : (a ^^^ b) / 2 = a / 2 ^^^ b / 2 := Nat.xor_div_two
  have h4 : (a ^^^ b) % 2 = 1 ↔ ¬ (a % 2 = 1 ↔ b % 2 = 1) := Nat.xor_mod_two_eq_one
  unfold tN
  rw [h2]
  by_cases ha : a % 2 = 0 <;> by_cases hb : b % 2 = 0
  · rw [if_pos ha, if_pos hb, if_pos (by omega)]
  · rw [if_pos ha, if_neg hb, if_neg (by omega), Nat.xor_assoc]
  · rw [if_neg ha, if_pos hb, if_neg (by omega), Nat.xor_assoc, Nat.xor_assoc, Nat.xor_comm (b / 2)]
  · rw [if_neg ha, if_neg hb, if_pos (by omega), Nat.xor_assoc, Nat.xor_comm 3988292384, Nat.xor_assoc, Nat.xor_self, Nat.xor_zero]
theorem tNi_xor (n a b : Nat) : tNi n (a ^^^ b) = tNi n a ^^^ tNi n b := by
  induction n with
  | zero => rfl
  | succ n ih => show tN (tNi n (a ^^^ b)) = _; rw [ih, tN_xor]; rfl
theorem tN_two (q : Nat) : tN (2 * q) = q := by unfold tN; rw [if_pos (by omega)]; omega
theorem tNi_four (q : Nat) : tNi 4 (16 * q) = q := by
  show tN (tN (tN (tN (16 * q)))) = q
  rw [show 16 * q = 2 * (2 * (2 * (2 * q))) by omega, tN_two, tN_two, tN_two, tN_two]
theorem split16 (c : Nat) : c = (c % 16) ^^^ (16 * (c / 16)) := by
  have h := xor_add (c % 16) (16 * (c / 16))
  have h2 : (16 * (c / 16)) &&& (c % 16) = 0 := by rw [Nat.mul_comm]; exact and_disj (k := 4) (by decide) _ _ (Nat.mod_lt _ (by decide))
  rw [Nat.and_comm] at h2
  rw [h2] at h
  omega
theorem nib_nat (c : Nat) : nib (c : Int) = (tNi 4 c : Int) := by
  unfold nib
  have hm : ((c : Int) % 16).toNat = c % 16 := by omega
  have hd : (c : Int) / 16 = ((c / 16 : Nat) : Int) := by omega
  rw [hm, hd]
  have hl : c % 16 < 16 := Nat.mod_lt _ (by decide)
  have ht : crcTab.getD (c % 16) 0 = ((tNi 4 (c % 16) : Nat) : Int) := by
    have : ∀ i, i < 16 → crcTab.getD i 0 = tIter 4 (i : Int) := by
      intro i hi
      unfold crcTab
      rcases i with _ | _ | _ | _ | _ | _ | _ | _ | _ | _ | _ | _ | _ | _ | _ | _ | i <;> first | rfl | omega
    rw [this _ hl, tIter_nat]
  rw [ht, bitXor_nat]
  congr 1
  conv => rhs; rw [split16 c, tNi_xor, tNi_four]
theorem cStep_nat (c k : Nat) : cStep (c : Int) (k : Int) = (tNi 8 (c ^^^ k) : Int) := by
  unfold cStep
  rw [bitXor_nat, nib_nat, nib_nat]
  rfl
theorem dStep_nat (o r i : Nat) : dStep (o : Int) (r : Int) i = ((if (r + o / 2 ^ i) % 2 = 1 then (r / 2) ^^^ 3988292384 else r / 2 : Nat) : Int) := by
  unfold dStep
  have h1 : (o : Int) / 2 ^ i = ((o / 2 ^ i : Nat) : Int) := by
    rw [show (2 : Int) ^ i = ((2 ^ i : Nat) : Int) by norm_cast]; norm_cast
  rw [h1]
  by_cases h : (r + o / 2 ^ i) % 2 = 1
  · rw [if_pos h, if_pos (by omega)]
    have : (r : Int) / 2 = ((r / 2 : Nat) : Int) := by omega
    rw [this, show (3988292384 : Int) = ((3988292384 : Nat) : Int) from rfl, bitXor_nat]
  · rw [if_neg h, if_neg (by omega)]; omega
theorem dRun (o r : Nat) : ∀ n, ∃ t : Nat, (List.range n).foldl (dStep (o : Int)) (r : Int) = (t : Int) ∧ tNi n (r ^^^ o) = t ^^^ (o / 2 ^ n)
  | 0 => ⟨r, rfl, by simp [tNi]⟩
  | n + 1 => by
    obtain ⟨t, h1, h2⟩ := dRun o r n
    rw [List.range_succ, List.foldl_append, h1]
    show ∃ t', dStep (o : Int) (t : Int) n = _ ∧ tN (tNi n (r ^^^ o)) = _
    rw [dStep_nat, h2]
    refine ⟨_, rfl, ?_⟩
    have hq : o / 2 ^ (n + 1) = o / 2 ^ n / 2 := by rw [Nat.pow_succ, Nat.div_div_eq_div_mul]
    rw [hq]
    generalize o / 2 ^ n = p
    have h3 : (t ^^^ p) / 2 = t / 2 ^^^ p / 2 := Nat.xor_div_two
    have h4 : (t ^^^ p) % 2 = 1 ↔ ¬ (t % 2 = 1 ↔ p % 2 = 1) := Nat.xor_mod_two_eq_one
    unfold tN
    rw [h3]
    by_cases h : (t + p) % 2 = 1
    · rw [if_pos h, if_neg (by omega), Nat.xor_assoc, Nat.xor_assoc, Nat.xor_comm (p / 2)]
    · rw [if_neg h, if_pos (by omega)]
theorem dOct_nat (r o : Nat) (ho : o < 256) : dOct (r : Int) (o : Int) = (tNi 8 (r ^^^ o) : Int) := by
  obtain ⟨t, h1, h2⟩ := dRun o r 8
  unfold dOct
  rw [h1, h2]
  rw [show o / 2 ^ 8 = 0 by omega, Nat.xor_zero]
theorem crc_fold : ∀ (x : List Int) (c : Nat), (∀ k ∈ x, 0 ≤ k ∧ k < 256) → ∃ c' : Nat, crcF x (c : Int) = (c' : Int) ∧ x.foldl dOct (c : Int) = (c' : Int)
  | [], c, _ => ⟨c, rfl, rfl⟩
  | k :: x, c, h => by
    obtain ⟨j, rfl⟩ := Int.eq_ofNat_of_zero_le (h k (.head _)).1
    have hj : j < 256 := by have := (h (j : Int) (.head _)).2; omega
    have ih := crc_fold x (tNi 8 (c ^^^ j)) fun q hq => h q (.tail _ hq)
    rw [← cStep_nat] at ih
    obtain ⟨c', i1, i2⟩ := ih
    refine ⟨c', i1, ?_⟩
    rw [cStep_nat, ← dOct_nat _ _ hj] at i2
    exact i2
theorem xorF (c : Nat) (h : c < 4294967296) : Builtin.bitXor (c : Int) 4294967295 = 4294967295 - (c : Int) := by
  rw [show (4294967295 : Int) = ((4294967295 : Nat) : Int) from rfl, bitXor_nat]
  have h1 := xor_add c 4294967295
  have h2 : c &&& 4294967295 = c := by
    rw [show 4294967295 = 2 ^ 32 - 1 from rfl, Nat.and_two_pow_sub_one_eq_mod]; omega
  rw [h2] at h1
  omega
theorem crcF_bounds : ∀ (x : List Int) (c : Int), (∀ k ∈ x, 0 ≤ k ∧ k < 256) → 0 ≤ c → c < 4294967296 → 0 ≤ crcF x c ∧ crcF x c < 4294967296
  | [], c, _, h0, h1 => ⟨h0, h1⟩
  | k :: x, c, h, h0, h1 => by
    have b := cStep_bounds h0 h1 (h k (.head _)).1 (h k (.head _)).2
    exact crcF_bounds x _ (fun q hq => h q (.tail _ hq)) b.1 b.2
theorem crcV_checkV (x : List Int) (h : ∀ k ∈ x, 0 ≤ k ∧ k < 256) : crcV x 0 = checkV x := by
  have e0 : Builtin.bitXor 0 4294967295 = ((4294967295 : Nat) : Int) := by decide
  have b := crcF_bounds x 4294967295 h (by decide) (by decide)
  obtain ⟨c, h1, h2⟩ := crc_fold x 4294967295 h
  unfold crcV checkV dF
  rw [e0]
  have h1' : crcF x ((4294967295 : Nat) : Int) = (c : Int) := h1
  have h2' : x.foldl dOct 4294967295 = (c : Int) := h2
  rw [h1', h2', xorF c (by have : crcF x 4294967295 = (c : Int) := h1; omega)]
theorem crcV_split (x y : List Int) (hx : ∀ k ∈ x, 0 ≤ k ∧ k < 256) (hy : ∀ k ∈ y, 0 ≤ k ∧ k < 256) : crcV y (crcV x 0) = checkV (x ++ y) := by
  rw [← crcV_checkV (x ++ y) fun k hk => (List.mem_append.mp hk).elim (hx k) (hy k)]
  have e0 : Builtin.bitXor 0 4294967295 = 4294967295 := by decide
  have b := crcF_bounds x 4294967295 hx (by decide) (by decide)
  obtain ⟨c, hc⟩ := Int.eq_ofNat_of_zero_le b.1
  unfold crcV
  rw [e0, hc]
  have h1 := xorF c (by omega)
  have h2 : Builtin.bitXor (4294967295 - (c : Int)) 4294967295 = (c : Int) := by
    have : (4294967295 : Int) - (c : Int) = ((4294967295 - c : Nat) : Int) := by omega
    rw [this, xorF _ (by omega)]; omega
  rw [h1, h2, ← hc]
  unfold crcF
  rw [List.foldl_append]
end Mine
end
section
open PySem PySem.W PyProof.Rows
set_option Elab.async false
set_option linter.unusedVariables false
namespace Mine
/-! what is led back -/
theorem at8_app (pre l : List UInt8) (j : Nat) : at8 (pre ++ l) (pre.length + j) = at8 l j := by
  unfold at8
  rw [List.getD_eq_getElem?_getD, List.getD_eq_getElem?_getD, List.getElem?_append_right (by omega), Nat.add_sub_cancel_left]
theorem at8_cons (c : UInt8) (l : List UInt8) (j : Nat) : at8 (c :: l) (j + 1) = at8 l j := by
  unfold at8; rw [List.getD_cons_succ]
theorem at8_zero (c : UInt8) (l : List UInt8) : at8 (c :: l) 0 = (c.toNat : Int) := rfl
theorem at8_byte {k : Int} (l : List UInt8) (h0 : 0 ≤ k) (h1 : k < 256) : at8 (byteOf k :: l) 0 = k := by rw [at8_zero, byteOf_val h0 h1]
/-- a block of five octets and a part, read -/
theorem bsz_block (pre rest p : List UInt8) (v0 v1 v2 v3 v4 : Int) (x : List UInt8) (hx : x = pre ++ (byteOf v0 :: byteOf v1 :: byteOf v2 :: byteOf v3 :: byteOf v4 :: rest))
    (h0 : 0 ≤ v0 ∧ v0 < 256) (h1 : 0 ≤ v1 ∧ v1 < 256) (h2 : 0 ≤ v2 ∧ v2 < 256) (h3 : 0 ≤ v3 ∧ v3 < 256) (h4 : 0 ≤ v4 ∧ v4 < 256) :
    at8 x (pre.length : Int).toNat = v0 ∧ bsz x (pre.length : Int) = if v0 / 2 ≠ 0 then none else if v3 + v4 * 256 ≠ 65535 - (v1 + v2 * 256) ∨ (rest.length : Int) < v1 + v2 * 256 then none else some (v1 + v2 * 256) := by
  have e0 : at8 x (pre.length : Int).toNat = v0 := by rw [hx, Int.toNat_natCast, show pre.length = pre.length + 0 from rfl, at8_app, at8_byte _ h0.1 h0.2]
  have e1 : at8 x ((pre.length : Int) + 1).toNat = v1 := by
    rw [show ((pre.length : Int) + 1).toNat = pre.length + 1 by omega, hx, at8_app, at8_cons, at8_byte _ h1.1 h1.2]
  have e2 : at8 x ((pre.length : Int) + 2).toNat = v2 := by
    rw [show ((pre.length : Int) + 2).toNat = pre.length + (1 + 1) by omega, hx, at8_app, at8_cons, at8_cons, at8_byte _ h2.1 h2.2]
  have e3 : at8 x ((pre.length : Int) + 3).toNat = v3 := by
    rw [show ((pre.length : Int) + 3).toNat = pre.length + (1 + 1 + 1) by omega, hx, at8_app, at8_cons, at8_cons, at8_cons, at8_byte _ h3.1 h3.2]
  have e4 : at8 x ((pre.length : Int) + 4).toNat = v4 := by
    rw [show ((pre.length : Int) + 4).toNat = pre.length + (1 + 1 + 1 + 1) by omega, hx, at8_app, at8_cons, at8_cons, at8_cons, at8_cons, at8_byte _ h4.1 h4.2]
  have hl : (x.length : Int) = (pre.length : Int) + 5 + (rest.length : Int) := by rw [hx, List.length_append]; simp only [List.length_cons]; omega
  refine ⟨e0, ?_⟩
  unfold bsz
  rw [e0, e1, e2, e3, e4, if_neg (by omega)]
  by_cases ha : v0 / 2 ≠ 0
  · rw [if_pos ha, if_pos ha]
  · rw [if_neg ha, if_neg ha]
    by_cases hb : v3 + v4 * 256 ≠ 65535 - (v1 + v2 * 256)
    · rw [if_pos (.inl hb), if_pos (.inl hb)]
    · by_cases hc : (rest.length : Int) < v1 + v2 * 256
      · rw [if_pos (.inr (by omega)), if_pos (.inr hc)]
      · rw [if_neg (by rintro (q | q) <;> omega), if_neg (by rintro (q | q) <;> omega)]
theorem drop_block (pre rest : List UInt8) (a b c d e : UInt8) : (pre ++ (a :: b :: c :: d :: e :: rest)).drop ((pre.length : Int) + 5).toNat = rest := by
  rw [show ((pre.length : Int) + 5).toNat = pre.length + 5 by omega, ← List.drop_drop, List.drop_left]; rfl
theorem unsF_block (pre rest p : List UInt8) (last : Bool) (hp : p.length ≤ 65535) (f : Nat) (b : List UInt8) :
    unsF (f + 1) (pre ++ (blkB last p ++ rest)) (pre.length : Int) b = if last = true then some (b ++ p, ((pre ++ blkB last p).length : Int)) else unsF f ((pre ++ blkB last p) ++ rest) ((pre ++ blkB last p).length : Int) (b ++ p) := by
  have hb : blkB last p ++ rest = byteOf (if last then 1 else 0) :: byteOf ((p.length : Int) % 256) :: byteOf ((p.length : Int) / 256) :: byteOf (255 - (p.length : Int) % 256) :: byteOf (255 - (p.length : Int) / 256) :: (p ++ rest) := rfl
  have h := bsz_block pre (p ++ rest) p (if last then 1 else 0) ((p.length : Int) % 256) ((p.length : Int) / 256) (255 - (p.length : Int) % 256) (255 - (p.length : Int) / 256) _ rfl
    (by split <;> omega) (by omega) (by omega) (by omega) (by omega)
  rw [← hb] at h
  have hd : (pre ++ (blkB last p ++ rest)).drop ((pre.length : Int) + 5).toNat = p ++ rest := by rw [hb, drop_block]
  have hz : (p.length : Int) % 256 + (p.length : Int) / 256 * 256 = (p.length : Int) := by omega
  rw [hz] at h
  have hn : ¬ ((255 - (p.length : Int) % 256) + (255 - (p.length : Int) / 256) * 256 ≠ 65535 - (p.length : Int) ∨ ((p ++ rest).length : Int) < (p.length : Int)) := by
    rw [List.length_append]; rintro (q | q) <;> omega
  rw [if_neg hn] at h
  have hl : (pre.length : Int) + 5 + (p.length : Int) = ((pre ++ blkB last p).length : Int) := by rw [List.length_append, blk_len]; omega
  have h2 : bsz (pre ++ (blkB last p ++ rest)) (pre.length : Int) = some (p.length : Int) := by
    rw [h.2]; cases last <;> rfl
  rw [unsF, h2]
  show (if at8 _ _ = 1 then _ else _) = _
  rw [h.1, hd, show ((p.length : Int)).toNat = p.length from rfl, List.take_left, hl, ← List.append_assoc]
  cases last
  · rfl
  · rfl
theorem unsF_strm {most : Nat} (hm : 0 < most) (hm2 : most ≤ 65535) (tl : List UInt8) : ∀ (fu : Nat) (y pre b : List UInt8) (f : Nat), y.length < fu → fu ≤ f →
    unsF f (pre ++ (strm most fu y ++ tl)) (pre.length : Int) b = some (b ++ y, ((pre ++ strm most fu y).length : Int))
  | 0, y, _, _, _, h, _ => by omega
  | fu + 1, y, pre, b, f, h, hf => by
    obtain ⟨f, rfl⟩ : ∃ g, f = g + 1 := ⟨f - 1, by omega⟩
    unfold strm
    by_cases hc : y.length ≤ most
    · rw [if_pos hc, unsF_block pre tl y true (by omega)]
      rfl
    · rw [if_neg hc, List.append_assoc, unsF_block pre _ (y.take most) false (by rw [List.length_take]; omega)]
      show unsF f _ _ _ = _
      rw [unsF_strm hm hm2 tl fu (y.drop most) _ _ f (by rw [List.length_drop]; omega) (by omega), List.append_assoc b, List.take_append_drop, List.append_assoc]
theorem strm_ge {most : Nat} (hm : 0 < most) : ∀ (fu : Nat) (y : List UInt8), y.length < fu → y.length ≤ (strm most fu y).length
  | 0, y, h => by omega
  | fu + 1, y, h => by
    unfold strm
    split
    · rw [blk_len]; omega
    · have ih := strm_ge hm fu (y.drop most) (by rw [List.length_drop]; omega)
      rw [List.length_append, blk_len, List.length_take]
      rw [List.length_drop] at ih
      omega
theorem unsX_strm {most : Nat} (hm : 0 < most) (hm2 : most ≤ 65535) (x tl : List UInt8) : unsX (bodyV x most ++ tl) = some (x, ((bodyV x most).length : Int)) := by
  have h := unsF_strm hm hm2 tl (x.length + 1) x [byteOf 120, byteOf 1] [] ((bodyV x most ++ tl).length + 1) (by omega) ?_
  · exact h
  · have : x.length ≤ (strm most (x.length + 1) x).length := strm_ge hm _ _ (by omega)
    rw [List.length_append]
    show _ ≤ ((strm most (x.length + 1) x).length + 2) + _ + 1
    omega
theorem unsV_stream {most : Nat} (hm : 0 < most) (hm2 : most ≤ 65535) (x : List UInt8) : unsV (streamV x most (sumV (bin x))) = some x := by
  unfold unsV streamV
  rw [unsX_strm hm hm2]
  dsimp only
  have hb := sumV_bounds (bin x)
  have hv : val32 (bodyV x most ++ be32 (sumV (bin x))) ((bodyV x most).length : Int) = sumV (bin x) := by
    have e := val32_be32 hb.1 hb.2
    unfold val32 at e ⊢
    rw [show (((bodyV x most).length : Int)).toNat = (bodyV x most).length + 0 from rfl, show (((bodyV x most).length : Int) + 1).toNat = (bodyV x most).length + 1 by omega, show (((bodyV x most).length : Int) + 2).toNat = (bodyV x most).length + 2 by omega,
      show (((bodyV x most).length : Int) + 3).toNat = (bodyV x most).length + 3 by omega, at8_app, at8_app, at8_app, at8_app]
    exact e
  rw [hv, adlV_sumV, if_neg]
  rintro (q | q)
  · apply q; rw [List.length_append]; show _ = ((_ + 4 : Nat) : Int); omega
  · exact q rfl
/-- another length is refused -/
theorem unsV_length {most : Nat} (hm : 0 < most) (hm2 : most ≤ 65535) (x tl : List UInt8) (h : tl.length ≠ 4) : unsV (bodyV x most ++ tl) = none := by
  unfold unsV
  rw [unsX_strm hm hm2]
  dsimp only
  rw [if_pos (.inl (by rw [List.length_append]; omega))]
end Mine
end
section
open PySem PySem.W PyProof.Rows
set_option Elab.async false
set_option linter.unusedVariables false
namespace Mine
/-! one octet turned -/
def Turn (a b : List UInt8) : Prop := ∃ u v c d, a = u ++ c :: v ∧ b = u ++ d :: v ∧ c ≠ d
theorem Turn.cons_inv {a : UInt8} {A M : List UInt8} (h : Turn (a :: A) M) : (∃ d, d ≠ a ∧ M = d :: A) ∨ (∃ A', M = a :: A' ∧ Turn A A') := by
  obtain ⟨u, v, c, d, h1, h2, h3⟩ := h
  cases u with
  | nil => cases h1; exact .inl ⟨d, Ne.symm h3, h2⟩
  | cons e u => cases h1; exact .inr ⟨u ++ d :: v, h2, u, v, c, d, rfl, rfl, h3⟩
theorem Turn.cons {a : UInt8} {A B : List UInt8} (h : Turn A B) : Turn (a :: A) (a :: B) := by
  obtain ⟨u, v, c, d, h1, h2, h3⟩ := h
  exact ⟨a :: u, v, c, d, by rw [h1]; rfl, by rw [h2]; rfl, h3⟩
theorem Turn.left {A B : List UInt8} (h : Turn A B) (C : List UInt8) : Turn (A ++ C) (B ++ C) := by
  obtain ⟨u, v, c, d, h1, h2, h3⟩ := h
  exact ⟨u, v ++ C, c, d, by rw [h1]; simp, by rw [h2]; simp, h3⟩
theorem Turn.right {A B : List UInt8} (h : Turn A B) : ∀ C : List UInt8, Turn (C ++ A) (C ++ B)
  | [] => h
  | c :: C => (h.right C).cons
theorem Turn.split : ∀ {A B M : List UInt8}, Turn (A ++ B) M → (∃ A', M = A' ++ B ∧ Turn A A') ∨ (∃ B', M = A ++ B' ∧ Turn B B')
  | [], B, M, h => .inr ⟨M, rfl, h⟩
  | a :: A, B, M, h => by
    rcases Turn.cons_inv (A := A ++ B) h with ⟨d, hd, rfl⟩ | ⟨M', rfl, h'⟩
    · exact .inl ⟨d :: A, rfl, [], A, a, d, rfl, rfl, Ne.symm hd⟩
    · rcases Turn.split h' with ⟨A', rfl, t⟩ | ⟨B', rfl, t⟩
      · exact .inl ⟨a :: A', rfl, t.cons⟩
      · exact .inr ⟨B', rfl, t⟩
theorem Turn.len {A B : List UInt8} (h : Turn A B) : B.length = A.length := by
  obtain ⟨u, v, c, d, h1, h2, h3⟩ := h
  rw [h1, h2, List.length_append, List.length_append]; rfl
theorem sumF_fst : ∀ (x : List Int) (p : Int × Int), (x.foldl sStep p).1 = p.1 + x.sum
  | [], p => by simp
  | k :: x, p => by rw [List.foldl_cons, sumF_fst x, List.sum_cons]; exact Int.add_assoc _ _ _
theorem Turn.sum {A B : List UInt8} (h : Turn A B) : sumV (bin A) ≠ sumV (bin B) := by
  obtain ⟨u, v, c, d, h1, h2, h3⟩ := h
  have e1 : (sumF (bin A)).1 = 1 + (bin u).sum + (c.toNat : Int) + (bin v).sum := by
    unfold sumF; rw [sumF_fst, h1, bin_append, bin_cons, List.sum_append, List.sum_cons]; omega
  have e2 : (sumF (bin B)).1 = 1 + (bin u).sum + (d.toNat : Int) + (bin v).sum := by
    unfold sumF; rw [sumF_fst, h2, bin_append, bin_cons, List.sum_append, List.sum_cons]; omega
  have hc := c.toNat_lt
  have hd := d.toNat_lt
  have hne : c.toNat ≠ d.toNat := fun q => h3 (UInt8.toNat_inj.mp q)
  unfold sumV
  rw [e1, e2]
  generalize (bin u).sum = su
  generalize (bin v).sum = sv
  generalize (sumF (bin A)).2 = sa
  generalize (sumF (bin B)).2 = sb
  omega (config := {})
theorem unsF_none {f : Nat} {x b : List UInt8} {a : Int} (h : bsz x a = none) : unsF f x a b = none := by
  cases f with
  | zero => rfl
  | succ f => rw [unsF, h]
theorem oct (c : UInt8) : byteOf ((c.toNat : Nat) : Int) = c := toUInt8_toNat c
/-- a turned head of a block -/
theorem bsz_head (pre rest : List UInt8) (a b c d e : UInt8) :
    at8 (pre ++ (a :: b :: c :: d :: e :: rest)) (pre.length : Int).toNat = (a.toNat : Int) ∧
    bsz (pre ++ (a :: b :: c :: d :: e :: rest)) (pre.length : Int) = if (a.toNat : Int) / 2 ≠ 0 then none else if (d.toNat : Int) + (e.toNat : Int) * 256 ≠ 65535 - ((b.toNat : Int) + (c.toNat : Int) * 256) ∨ (rest.length : Int) < (b.toNat : Int) + (c.toNat : Int) * 256 then none else some ((b.toNat : Int) + (c.toNat : Int) * 256) := by
  have ha := a.toNat_lt
  have hb := b.toNat_lt
  have hc := c.toNat_lt
  have hd := d.toNat_lt
  have he := e.toNat_lt
  refine bsz_block pre rest [] _ _ _ _ _ _ ?_ (by omega) (by omega) (by omega) (by omega) (by omega)
  rw [oct, oct, oct, oct, oct]
theorem strm_pos (most : Nat) : ∀ (fu : Nat) (y : List UInt8), y.length < fu → 5 ≤ (strm most fu y).length
  | 0, y, h => by omega
  | fu + 1, y, h => by
    unfold strm
    split
    · rw [blk_len]; omega
    · rw [List.length_append, blk_len]; omega
theorem ite2 {α : Type} {p q : Prop} [Decidable p] [Decidable q] {z : Option α} (hq : q) : (if p then none else if q then none else z) = none := by
  by_cases hp : p
  · rw [if_pos hp]
  · rw [if_neg hp, if_pos hq]
theorem unsF_turn {most : Nat} (hm : 0 < most) (hm2 : most ≤ 65535) (tl : List UInt8) (htl : tl.length = 4) : ∀ (fu : Nat) (y pre b M : List UInt8) (f : Nat), y.length < fu → fu ≤ f → Turn (strm most fu y) M →
    unsF f (pre ++ (M ++ tl)) (pre.length : Int) b = none ∨ ∃ z a, unsF f (pre ++ (M ++ tl)) (pre.length : Int) b = some (b ++ z, a) ∧ (a + 4 = ((pre ++ (M ++ tl)).length : Int) → Turn y z)
  | 0, y, _, _, _, _, h, _, _ => by omega
  | fu + 1, y, pre, b, M, f, h, hf, ht => by
    obtain ⟨f, rfl⟩ : ∃ g, f = g + 1 := ⟨f - 1, by omega⟩
    -- what the first block becomes
    have main : ∀ (last : Bool) (p B' R : List UInt8), p.length ≤ 65535 → Turn (blkB last p) B' → (last = true → R.length = 4) → (last = false → 9 ≤ R.length) →
        (∀ p' : List UInt8, p'.length = p.length → last = false → ∃ z, unsF f ((pre ++ blkB false p') ++ R) ((pre ++ blkB false p').length : Int) (b ++ p') = some (b ++ p' ++ z, ((pre ++ (B' ++ R)).length : Int) - 4) ∧ y = p ++ z) → (last = true → y = p) →
        unsF (f + 1) (pre ++ (B' ++ R)) (pre.length : Int) b = none ∨ ∃ z a, unsF (f + 1) (pre ++ (B' ++ R)) (pre.length : Int) b = some (b ++ z, a) ∧ (a + 4 = ((pre ++ (B' ++ R)).length : Int) → Turn y z) := by
      intro last p B' R hp hB hR1 hR2 hrest hy
      have hv1 : ((byteOf ((p.length : Int) % 256)).toNat : Int) = (p.length : Int) % 256 := byteOf_val (by omega) (by omega)
      have hv2 : ((byteOf ((p.length : Int) / 256)).toNat : Int) = (p.length : Int) / 256 := byteOf_val (by omega) (by omega)
      have hv3 : ((byteOf (255 - (p.length : Int) % 256)).toNat : Int) = 255 - (p.length : Int) % 256 := byteOf_val (by omega) (by omega)
      have hv4 : ((byteOf (255 - (p.length : Int) / 256)).toNat : Int) = 255 - (p.length : Int) / 256 := byteOf_val (by omega) (by omega)
      have hv0 : ((byteOf (if last = true then 1 else 0)).toNat : Int) = if last = true then 1 else 0 := byteOf_val (by split <;> decide) (by split <;> decide)
      have hne : ∀ c d : UInt8, d ≠ c → (d.toNat : Int) ≠ (c.toNat : Int) := fun c d h q => h (UInt8.toNat_inj.mp (by exact_mod_cast q))
      have hlt : ∀ c : UInt8, (c.toNat : Int) < 256 ∧ 0 ≤ (c.toNat : Int) := fun c => by have := c.toNat_lt; omega
      unfold blkB at hB
      rcases Turn.cons_inv hB with ⟨d, hd, rfl⟩ | ⟨B1, rfl, hB1⟩
      · -- the flag
        have h8 := bsz_head pre (p ++ R) d (byteOf ((p.length : Int) % 256)) (byteOf ((p.length : Int) / 256)) (byteOf (255 - (p.length : Int) % 256)) (byteOf (255 - (p.length : Int) / 256))
        have h9 := hne _ _ hd
        have h10 := hlt d
        rw [hv0] at h9
        rw [hv1, hv2, hv3, hv4] at h8
        by_cases hbig : (d.toNat : Int) / 2 ≠ 0
        · rw [if_pos hbig] at h8
          exact .inl (unsF_none h8.2)
        have ed : d = byteOf (if (!last) = true then 1 else 0) := by
          rw [← oct d]
          congr 1
          cases last
          · have : (d.toNat : Int) ≠ 0 := by simpa using h9
            show (d.toNat : Int) = 1
            omega
          · have : (d.toNat : Int) ≠ 1 := by simpa using h9
            show (d.toNat : Int) = 0
            omega
        have eb : d :: byteOf ((p.length : Int) % 256) :: byteOf ((p.length : Int) / 256) :: byteOf (255 - (p.length : Int) % 256) :: byteOf (255 - (p.length : Int) / 256) :: p = blkB (!last) p := by rw [ed]; rfl
        rw [eb, unsF_block pre R p (!last) hp]
        have hlen : ((pre ++ (blkB (!last) p ++ R)).length : Int) = ((pre ++ blkB (!last) p).length : Int) + (R.length : Int) := by rw [← List.append_assoc, List.length_append]; omega
        cases last with
        | true =>
          rw [if_neg (by decide)]
          refine .inl (unsF_none ?_)
          unfold bsz
          rw [if_pos]
          have := hR1 rfl
          rw [List.length_append]; omega
        | false =>
          rw [if_pos (show (!false) = true from rfl)]
          refine .inr ⟨p, _, rfl, fun q => ?_⟩
          have := hR2 rfl
          omega
      rcases Turn.cons_inv hB1 with ⟨d, hd, rfl⟩ | ⟨B2, rfl, hB2⟩
      · refine .inl (unsF_none ?_)
        have h8 := (bsz_head pre (p ++ R) (byteOf (if last = true then 1 else 0)) d (byteOf ((p.length : Int) / 256)) (byteOf (255 - (p.length : Int) % 256)) (byteOf (255 - (p.length : Int) / 256))).2
        have h9 := hne _ _ hd
        have h10 := hlt d
        rw [hv1] at h9
        rw [hv2, hv3, hv4] at h8
        exact h8.trans (ite2 (.inl (by omega)))
      rcases Turn.cons_inv hB2 with ⟨d, hd, rfl⟩ | ⟨B3, rfl, hB3⟩
      · refine .inl (unsF_none ?_)
        have h8 := (bsz_head pre (p ++ R) (byteOf (if last = true then 1 else 0)) (byteOf ((p.length : Int) % 256)) d (byteOf (255 - (p.length : Int) % 256)) (byteOf (255 - (p.length : Int) / 256))).2
        have h9 := hne _ _ hd
        have h10 := hlt d
        rw [hv2] at h9
        rw [hv1, hv3, hv4] at h8
        exact h8.trans (ite2 (.inl (by omega)))
      rcases Turn.cons_inv hB3 with ⟨d, hd, rfl⟩ | ⟨B4, rfl, hB4⟩
      · refine .inl (unsF_none ?_)
        have h8 := (bsz_head pre (p ++ R) (byteOf (if last = true then 1 else 0)) (byteOf ((p.length : Int) % 256)) (byteOf ((p.length : Int) / 256)) d (byteOf (255 - (p.length : Int) / 256))).2
        have h9 := hne _ _ hd
        have h10 := hlt d
        rw [hv3] at h9
        rw [hv1, hv2, hv4] at h8
        exact h8.trans (ite2 (.inl (by omega)))
      rcases Turn.cons_inv hB4 with ⟨d, hd, rfl⟩ | ⟨p', rfl, hB5⟩
      · refine .inl (unsF_none ?_)
        have h8 := (bsz_head pre (p ++ R) (byteOf (if last = true then 1 else 0)) (byteOf ((p.length : Int) % 256)) (byteOf ((p.length : Int) / 256)) (byteOf (255 - (p.length : Int) % 256)) d).2
        have h9 := hne _ _ hd
        have h10 := hlt d
        rw [hv4] at h9
        rw [hv1, hv2, hv3] at h8
        exact h8.trans (ite2 (.inl (by omega)))
      · -- the part
        have hpl := hB5.len
        have eb : (byteOf (if last = true then 1 else 0) :: byteOf ((p.length : Int) % 256) :: byteOf ((p.length : Int) / 256) :: byteOf (255 - (p.length : Int) % 256) :: byteOf (255 - (p.length : Int) / 256) :: p') = blkB last p' := by
          unfold blkB; rw [hpl]
        rw [eb] at hrest ⊢
        rw [unsF_block pre R p' last (by omega)]
        cases last with
        | true =>
          rw [if_pos rfl]
          refine .inr ⟨p', _, rfl, fun _ => ?_⟩
          rw [hy rfl]; exact hB5
        | false =>
          rw [if_neg (by decide)]
          obtain ⟨z, hz, ey⟩ := hrest p' hpl rfl
          refine .inr ⟨p' ++ z, _, by rw [hz, List.append_assoc], fun _ => ?_⟩
          rw [ey]; exact hB5.left z
    unfold strm at ht
    by_cases hc : y.length ≤ most
    · rw [if_pos hc] at ht
      exact main true y M tl (by omega) ht (fun _ => htl) (fun q => by cases q) (fun _ _ q => by cases q) (fun _ => rfl)
    · rw [if_neg hc] at ht
      have hpl : (y.take most).length = most := by rw [List.length_take]; omega
      have hdl : (y.drop most).length < fu := by rw [List.length_drop]; omega
      rcases Turn.split ht with ⟨A', rfl, t⟩ | ⟨B', rfl, t⟩
      · have hAl := t.len
        rw [List.append_assoc]
        refine main false (y.take most) A' (strm most fu (y.drop most) ++ tl) (by omega) t (fun q => by cases q) (fun _ => ?_) (fun p' hp' _ => ?_) (fun q => by cases q)
        · have := strm_pos most fu (y.drop most) hdl
          rw [List.length_append]; omega
        · refine ⟨y.drop most, ?_, (List.take_append_drop ..).symm⟩
          rw [unsF_strm hm hm2 tl fu (y.drop most) _ _ f hdl (by omega)]
          congr 2
          simp only [List.length_append, blk_len] at hAl ⊢
          omega
      · rw [List.append_assoc, unsF_block pre _ (y.take most) false (by omega), if_neg (by decide)]
        have ih := unsF_turn hm hm2 tl htl fu (y.drop most) (pre ++ blkB false (y.take most)) (b ++ y.take most) B' f hdl (by omega) t
        rcases ih with h1 | ⟨z, a, h1, h2⟩
        · exact .inl h1
        · refine .inr ⟨y.take most ++ z, a, by rw [h1, List.append_assoc], fun q => ?_⟩
          have h3 := h2 (by rw [q]; simp only [List.append_assoc])
          have h4 := h3.right (y.take most)
          rwa [List.take_append_drop] at h4
end Mine
end
section
open PySem PySem.W PyProof.Rows
set_option Elab.async false
set_option linter.unusedVariables false
namespace Mine
theorem val32_four (a b c d : UInt8) : val32 [a, b, c, d] 0 = (a.toNat : Int) * 16777216 + (b.toNat : Int) * 65536 + (c.toNat : Int) * 256 + (d.toNat : Int) := rfl
theorem val32_turn {n : Int} {B : List UInt8} (h : Turn (be32 n) B) : val32 B 0 ≠ val32 (be32 n) 0 := by
  unfold be32 at h ⊢
  generalize byteOf (n / 16777216 % 256) = a at *
  generalize byteOf (n / 65536 % 256) = b at *
  generalize byteOf (n / 256 % 256) = c at *
  generalize byteOf (n % 256) = d at *
  have hne : ∀ p q : UInt8, p ≠ q → (p.toNat : Int) ≠ (q.toNat : Int) := fun p q h e => h (UInt8.toNat_inj.mp (by exact_mod_cast e))
  have ha := a.toNat_lt
  have hb := b.toNat_lt
  have hc := c.toNat_lt
  have hd := d.toNat_lt
  rcases Turn.cons_inv h with ⟨e, he, rfl⟩ | ⟨B1, rfl, h1⟩
  · have := hne _ _ he; have := e.toNat_lt; rw [val32_four, val32_four]; omega
  rcases Turn.cons_inv h1 with ⟨e, he, rfl⟩ | ⟨B2, rfl, h2⟩
  · have := hne _ _ he; have := e.toNat_lt; rw [val32_four, val32_four]; omega
  rcases Turn.cons_inv h2 with ⟨e, he, rfl⟩ | ⟨B3, rfl, h3⟩
  · have := hne _ _ he; have := e.toNat_lt; rw [val32_four, val32_four]; omega
  rcases Turn.cons_inv h3 with ⟨e, he, rfl⟩ | ⟨B4, rfl, h4⟩
  · have := hne _ _ he; have := e.toNat_lt; rw [val32_four, val32_four]; omega
  obtain ⟨u, v, p, q, h5, _, _⟩ := h4
  cases u <;> cases h5
theorem val32_at (A T : List UInt8) : val32 (A ++ T) (A.length : Int) = val32 T 0 := by
  unfold val32
  rw [show ((A.length : Int)).toNat = A.length + 0 from rfl, show ((A.length : Int) + 1).toNat = A.length + 1 by omega, show ((A.length : Int) + 2).toNat = A.length + 2 by omega,
    show ((A.length : Int) + 3).toNat = A.length + 3 by omega, at8_app, at8_app, at8_app, at8_app]
  rfl
theorem unsV_turn {most : Nat} (hm : 0 < most) (hm2 : most ≤ 65535) (x R : List UInt8) (h : Turn (strm most (x.length + 1) x ++ be32 (sumV (bin x))) R) : unsV (byteOf 120 :: byteOf 1 :: R) = none := by
  have hb := sumV_bounds (bin x)
  have hv := val32_be32 hb.1 hb.2
  rcases Turn.split h with ⟨A, rfl, t⟩ | ⟨B, rfl, t⟩
  · have hl : x.length ≤ (strm most (x.length + 1) x).length := strm_ge hm _ _ (by omega)
    have hA := t.len
    have key := unsF_turn hm hm2 (be32 (sumV (bin x))) rfl (x.length + 1) x [byteOf 120, byteOf 1] [] A (([byteOf 120, byteOf 1] ++ (A ++ be32 (sumV (bin x)))).length + 1) (by omega)
      (by simp only [List.length_append, List.length_cons, List.length_nil]; omega) t
    have e : unsX (byteOf 120 :: byteOf 1 :: (A ++ be32 (sumV (bin x)))) = unsF (([byteOf 120, byteOf 1] ++ (A ++ be32 (sumV (bin x)))).length + 1) ([byteOf 120, byteOf 1] ++ (A ++ be32 (sumV (bin x)))) (([byteOf 120, byteOf 1] : List UInt8).length : Int) [] := rfl
    unfold unsV
    rcases key with k | ⟨z, a, k, k2⟩
    · rw [e, k]
    · rw [e, k]
      show (if _ then _ else _) = _
      by_cases ha : a + 4 = (([byteOf 120, byteOf 1] ++ (A ++ be32 (sumV (bin x)))).length : Int)
      · have hz := (k2 ha).sum
        have ea : a = ((byteOf 120 :: byteOf 1 :: A).length : Int) := by
          have : (([byteOf 120, byteOf 1] ++ (A ++ be32 (sumV (bin x)))).length : Int) = ((byteOf 120 :: byteOf 1 :: A).length : Int) + 4 := by
            simp only [List.length_append, List.length_cons, List.length_nil, be32]; omega
          omega
        refine if_pos (.inr ?_)
        rw [ea, show byteOf 120 :: byteOf 1 :: (A ++ be32 (sumV (bin x))) = (byteOf 120 :: byteOf 1 :: A) ++ be32 (sumV (bin x)) from rfl, val32_at, hv, adlV_sumV]
        exact hz
      · rw [if_pos (.inl ha)]
  · have e : byteOf 120 :: byteOf 1 :: (strm most (x.length + 1) x ++ B) = bodyV x most ++ B := rfl
    rw [e]
    unfold unsV
    rw [unsX_strm hm hm2]
    show (if _ then _ else _) = _
    refine if_pos (.inr ?_)
    rw [val32_at, adlV_sumV]
    intro q
    exact val32_turn t (q.trans hv.symm)
theorem turn_at (c0 c1 d : UInt8) (R : List UInt8) (i : Nat) (h2 : 2 ≤ i) (hi : i < (c0 :: c1 :: R).length) (hd : d ≠ (c0 :: c1 :: R).getD i 0) :
    ∃ R', (c0 :: c1 :: R).take i ++ d :: (c0 :: c1 :: R).drop (i + 1) = c0 :: c1 :: R' ∧ Turn R R' := by
  obtain ⟨j, rfl⟩ : ∃ j, i = j + 2 := ⟨i - 2, by omega⟩
  have hj : j < R.length := by simp only [List.length_cons] at hi; omega
  have hg : (c0 :: c1 :: R).getD (j + 2) 0 = R[j] := by
    rw [List.getD_cons_succ, List.getD_cons_succ, List.getD_eq_getElem?_getD, List.getElem?_eq_getElem hj]; rfl
  rw [hg] at hd
  refine ⟨R.take j ++ d :: R.drop (j + 1), rfl, R.take j, R.drop (j + 1), R[j], d, ?_, rfl, Ne.symm hd⟩
  rw [List.getElem_cons_drop, List.take_append_drop]
/-- the law's turned octet -/
theorem unsV_flip {most : Nat} (hm : 0 < most) (hm2 : most ≤ 65535) (x : List UInt8) (i : Nat) (d : UInt8) (h2 : 2 ≤ i) (hi : i < (streamV x most (sumV (bin x))).length) (hd : d ≠ (streamV x most (sumV (bin x))).getD i 0) :
    unsV ((streamV x most (sumV (bin x))).take i ++ d :: (streamV x most (sumV (bin x))).drop (i + 1)) = none ∧
    ∃ R', (streamV x most (sumV (bin x))).take i ++ d :: (streamV x most (sumV (bin x))).drop (i + 1) = byteOf 120 :: byteOf 1 :: R' := by
  obtain ⟨R', e, t⟩ := turn_at (byteOf 120) (byteOf 1) d (strm most (x.length + 1) x ++ be32 (sumV (bin x))) i h2 hi hd
  have e' : (streamV x most (sumV (bin x))).take i ++ d :: (streamV x most (sumV (bin x))).drop (i + 1) = byteOf 120 :: byteOf 1 :: R' := e
  rw [e']
  exact ⟨unsV_turn hm hm2 x R' t, R', rfl⟩
/-- the law's cut -/
theorem unsV_cut {most : Nat} (hm : 0 < most) (hm2 : most ≤ 65535) (x : List UInt8) (n k : Int) (k0 : 0 ≤ k) (k1 : k < 4) :
    unsV ((streamV x most n).take (((streamV x most n).length : Int) + (-1 - k)).toNat) = none := by
  have hl : (streamV x most n).length = (bodyV x most).length + 4 := by unfold streamV; rw [List.length_append]; rfl
  have e : (((streamV x most n).length : Int) + (-1 - k)).toNat = (bodyV x most).length + (3 - k).toNat := by omega
  rw [e]
  unfold streamV
  rw [List.take_length_add_append]
  refine unsV_length hm hm2 x _ ?_
  rw [List.length_take]
  have : (be32 n).length = 4 := rfl
  omega
theorem unsV_long {most : Nat} (hm : 0 < most) (hm2 : most ≤ 65535) (x : List UInt8) (n : Int) (c : UInt8) : unsV (streamV x most n ++ [c]) = none := by
  unfold streamV
  rw [List.append_assoc]
  exact unsV_length hm hm2 x _ (by rw [List.length_append]; show 4 + 1 ≠ 4; decide)
end Mine
end
section
open PySem PySem.W PyProof.Rows Mine
local macro_rules | `(tactic| walk_at "S") => `(tactic| exact Site.go ‹_› ‹_› (by decide) (by decide))
local macro_rules | `(tactic| walk_at "exec For Name Call cons nil") => `(tactic| ((with_reducible rename Fr _ _ _ _ => lF9); k_dflt (refine For_invVF lF9 (by exact rfl) (by exact rfl) ?_)))
local macro_rules | `(tactic| walk_at "exec For Name Name cons nil") => `(tactic| walk_at "exec For Name Call cons nil")
local macro_rules | `(tactic| walk_at "pyIter bytes") => `(tactic| refine Hold.out ?_)
local macro_rules | `(tactic| walk_at "pyIter ref") => `(tactic| refine Hold.out ?_)
local macro_rules | `(tactic| walk_at "exec While") => `(tactic| refine Hold.out ?_)
local macro_rules | `(tactic| walk_at "exec While BoolOp") => `(tactic| refine Hold.out ?_)
local macro_rules | `(tactic| walk_at "exec While BoolOp cons nil") => `(tactic| refine Hold.out ?_)
local macro_rules | `(tactic| walk_at "InvEndN") => `(tactic| refine Hold.out ?_)
local macro_rules | `(tactic| walk_at "InvPostN") => `(tactic| refine Hold.out ?_)
local macro_rules | `(tactic| walk_at "CompSrc") => `(tactic| refine Hold.out ?_)
local macro_rules | `(tactic| walk_at "binaryOp RShift int int") => `(tactic| ((with_reducible (first | refine shr24 ?_ | refine shr16 ?_ | refine shr8 ?_ | refine shr4 ?_ | refine shr1 ?_)); (try dsimp only)))
local macro_rules | `(tactic| walk_at "binaryOp LShift int int") => `(tactic| ((with_reducible (first | refine shl24 ?_ ?_ ?_ | refine shl16 ?_ ?_ ?_ | refine shl8 ?_ ?_ ?_)); k_dflt (iterate 2 omega); (try dsimp only)))
local macro_rules | `(tactic| walk_at "binaryOp BitAnd int int") => `(tactic| ((with_reducible (first | refine and255 ?_ | refine and65535 ?_ | refine and15 ?_ | refine and1 ?_)); (try dsimp only)))
local macro_rules | `(tactic| walk_at "R") => `(tactic| (k_dflt (iterate 4 omega)))
local macro_rules | `(tactic| walk_at "binaryOp BitOr int int") => `(tactic| ((with_reducible (first | (refine orL24 ?_ ?_ ?_ ?_ ?_; walk_at "R") | (refine orL16 ?_ ?_ ?_ ?_ ?_; walk_at "R") | (refine orL8 ?_ ?_ ?_ ?_ ?_; walk_at "R") | (refine orR24 ?_ ?_ ?_ ?_ ?_; walk_at "R") | (refine orR16 ?_ ?_ ?_ ?_ ?_; walk_at "R") | (refine orR8 ?_ ?_ ?_ ?_ ?_; walk_at "R"))); (try dsimp only)))
local macro_rules | `(tactic| walk_at "binaryOp BitXor int int") => `(tactic| ((with_reducible (first | refine xorL ?_ ?_ ?_ ?_ ?_)); k_dflt (iterate 4 omega); intro _ _ _ _; (try dsimp only)))
local macro_rules | `(tactic| walk_at "binaryOp FloorDiv int int") => `(tactic| ((with_reducible (first | refine divL ?_ ?_ ?_)); k_dflt (iterate 2 omega); (try dsimp only)))
local macro_rules | `(tactic| walk_at "binaryOp Mod int int") => `(tactic| ((with_reducible (first | refine modL ?_ ?_)); k_dflt omega; (try dsimp only)))
local macro_rules | `(tactic| walk_at "binaryOp Pow int int") => `(tactic| ((with_reducible (first | refine pow2L ?_ ?_ ?_ | refine pow256L ?_ ?_ ?_)); k_dflt (iterate 2 omega); intro _ _ _ _; (try dsimp only)))
local macro_rules | `(tactic| walk_at "subscriptTail") => `(tactic| ((with_reducible show wpAny _ _ (subscriptTail _ _ (Value.bytes (List.toArray _) _) (Value.int _ _)) _ _ _); k_dflt (refine item_bytes ?_ ?_ ?_ ?_; iterate 3 omega); intro _ _ _ _; (try dsimp only)))
section
open PySem PySem.W PyProof.Rows
set_option Elab.async false
set_option linter.unusedVariables false
namespace Mine

set_option maxRecDepth 100000 in
set_option maxHeartbeats 8000000 in
theorem put32_spec {w : World} {A : Around} {G : Heap} {s : Shared} {n : Int} {tn : Tok} {Q : Value → Shared → Prop} {E : Value → Shared → Prop}
    (S : Site w A G s.heap 5 40) (h0 : 0 ≤ n) (h1 : n < 4294967296)
    (ret : ∀ h' tk t, s.heap.StaysIn h' → Q (.bytes (be32 n).toArray t) { s with heap := h', toks := tk }) :
    wpAny (model PySem.Challenge.rw_nu0004_01.row.prog w) A (call (.ref 53) [.int n tn]) Q E s := by
  w_top off
  obtain ⟨hdl, dpt, frm, gds, unt⟩ := A; obtain rfl : hdl = none := S.hnd
  have hK0 := S.kin; have hK9 := Frag.In.keeps S.kin S.gst; revert hK0; k_fill; intro hK0
  refine wpAny_call ?_
  refine' enter (binds := [(Str.ofString "n", Value.int n tn)]) S [] ?hh ?ho ?hcd ?hb ?hl ?_ ?c1 ?c2 ?c3 ?c4
  case hh => simp
  case ho => k_is
  case hcd => k_is
  case hb => first | exact hbnd _ _ _ _ (by k_is) | exact BindsTo.of_eq rfl | exact binds_K hK9 rfl (by k_is) rfl rfl rfl
  case hl => exact locs rfl
  case c1 => decide
  case c2 => exact rfl
  case c3 => exact rfl
  case c4 => exact rfl
  clear hK0 hK9
  intro g L' h₁ fr mean mg mb hg F N S' B X T l1
  dsimp only [List.length, List.map] at *
  try k_fold
  refine letA ?_; intro ak
  clear S
  k_steps
  exact ret _ _ _ (But.stays (hg _ (Fr.keep (by assumption))))
set_option maxRecDepth 100000 in
set_option maxHeartbeats 8000000 in
theorem get32_spec {w : World} {A : Around} {G : Heap} {s : Shared} {x : List UInt8} {tx : Tok} {n : Int} {tn : Tok} {Q : Value → Shared → Prop} {E : Value → Shared → Prop}
    (S : Site w A G s.heap 5 40) (h0 : 0 ≤ n) (h1 : n + 4 ≤ (x.length : Int)) (h2 : x.length < 1000000)
    (ret : ∀ h' tk t v, s.heap.StaysIn h' → v = val32 x n → Q (.int v t) { s with heap := h', toks := tk }) :
    wpAny (model PySem.Challenge.rw_nu0004_01.row.prog w) A (call (.ref 60) [.bytes x.toArray tx, .int n tn]) Q E s := by
  obtain ⟨hdl, dpt, frm, gds, unt⟩ := A; obtain rfl : hdl = none := S.hnd
  have hK0 := S.kin; have hK9 := Frag.In.keeps S.kin S.gst; revert hK0; k_fill; intro hK0
  refine wpAny_call ?_
  refine' enter (binds := [(Str.ofString "octets", Value.bytes x.toArray tx), (Str.ofString "at", Value.int n tn)]) S [] ?hh ?ho ?hcd ?hb ?hl ?_ ?c1 ?c2 ?c3 ?c4
  case hh => simp
  case ho => k_is
  case hcd => k_is
  case hb => first | exact hbnd _ _ _ _ (by k_is) | exact BindsTo.of_eq rfl | exact binds_K hK9 rfl (by k_is) rfl rfl rfl
  case hl => exact locs rfl
  case c1 => decide
  case c2 => exact rfl
  case c3 => exact rfl
  case c4 => exact rfl
  clear hK0 hK9
  intro g L' h₁ fr mean mg mb hg F N S' B X T l1
  dsimp only [List.length, List.map] at *
  try k_fold
  refine letA ?_; intro ak
  clear S
  k_steps
  refine ret _ _ _ _ (But.stays (hg _ (Fr.keep (by assumption)))) ?_
  subst_vars
  rfl
set_option maxRecDepth 100000 in
set_option maxHeartbeats 8000000 in
theorem adlerG_spec {w : World} {A : Around} {G : Heap} {s : Shared} {Q : Value → Shared → Prop} {E : Value → Shared → Prop} {x : List UInt8} {tx : Tok} {n : Int} {tn : Tok} {pos : List Value} (hp9 : pos = [.bytes x.toArray tx, .int n tn] ∨ (pos = [.bytes x.toArray tx] ∧ n = 1 ∧ tn = 274)) (S : Site w A G s.heap 5 40) (h0 : 0 ≤ n) (h1 : n < 4294967296)
    (ret : ∀ h' tk t v, s.heap.StaysIn h' → v = adlV (bin x) n → Q (.int v t) { s with heap := h', toks := tk }) :
    wpAny (model PySem.Challenge.rw_nu0004_01.row.prog w) A (call (.ref 83) pos) Q E s := by
  obtain ⟨hdl, dpt, frm, gds, unt⟩ := A; obtain rfl : hdl = none := S.hnd
  have hK0 := S.kin; have hK9 := Frag.In.keeps S.kin S.gst; revert hK0; k_fill; intro hK0
  refine wpAny_call ?_
  refine' enter (binds := [(Str.ofString "octets", Value.bytes x.toArray tx), (Str.ofString "begin", Value.int n tn)]) S [] ?hh ?ho ?hcd ?hb ?hl ?_ ?c1 ?c2 ?c3 ?c4
  case hh => simp
  case ho => k_is
  case hcd => k_is
  case hb => (rcases hp9 with rfl | ⟨rfl, rfl, rfl⟩) <;> first | exact hbnd _ _ _ _ (by k_is) | exact BindsTo.of_eq rfl | exact binds_K hK9 rfl (by k_is) rfl rfl rfl
  case hl => exact locs rfl
  case c1 => decide
  case c2 => exact rfl
  case c3 => exact rfl
  case c4 => exact rfl
  clear hK0 hK9
  intro g L' h₁ fr mean mg mb hg F N S' B X T l1
  dsimp only [List.length, List.map] at *
  try k_fold
  refine letA ?_; intro ak
  clear S hp9
  k_steps
  refine Hold.back ?_
  refine' KStb.kst_bytes (σ := Int × Int × Tok × Tok) (fun _ => []) (fun c => [(Str.ofString "low", Value.int c.1 c.2.2.1), (Str.ofString "high", Value.int c.2.1 c.2.2.2)]) (fun _ => True) [Str.ofString "low", Str.ofString "high"]
    (fun pre c => 0 ≤ c.1 ∧ c.1 < 65536 ∧ 0 ≤ c.2.1 ∧ c.2.1 < 65536 ∧ (c.1, c.2.1) = adlF pre (n % 65536, n / 65536)) (n % 65536, n / 65536, _, _) rfl rfl rfl (by assumption) News.nil trivial ?hk ?hp ?turn ?done
  case hk => intro p hp; simp only [List.mem_cons, List.mem_nil_iff, or_false] at hp; rcases hp with rfl | rfl <;> rfl
  case hp => refine ⟨?_, ?_, ?_, ?_, rfl⟩ <;> dsimp only <;> omega
  case turn =>
    rintro ⟨lo, hi, tlo, thi⟩ pre post k t u h tk own hpre hlen hk0 hk1 hoff _ ⟨hl0, hl1, hh0, hh1, hP⟩ F' N'
    dsimp only at *
    k_fold
    k_steps
    refine' Hold.back (kst_end ((lo + k) % 65521, (hi + (lo + k) % 65521) % 65521, _, _) (by assumption) (by assumption) ?a ?b rfl trivial ?c ?d ?e)
    case a => intro p hp; cases hp
    case b => intro p hp; exact hp
    case c => intro p hp; simp only [List.mem_cons, List.mem_nil_iff, or_false] at hp; rcases hp with rfl | rfl <;> rfl
    case d =>
      intro z hz1 hz2 hz3
      have e1 := hz2 _ (List.mem_cons_self ..)
      have e2 := hz2 _ (List.mem_cons_of_mem _ (List.mem_cons_self ..))
      dsimp only at e1 e2
      simp only [kstB, if_neg hz1, if_neg e1, if_neg e2, hz3, Bool.false_eq_true, if_false]
    case e =>
      refine ⟨?_, ?_, ?_, ?_, ?_⟩
      · dsimp only; omega
      · dsimp only; omega
      · dsimp only; omega
      · dsimp only; omega
      · unfold adlF at hP ⊢; rw [List.foldl_append, ← hP]; rfl
  case done =>
    rintro ⟨lo, hi, tlo, thi⟩ u h tk hlen _ ⟨hl0, hl1, hh0, hh1, hP⟩ F' N'
    dsimp only at *
    k_steps
    refine ret _ _ _ _ (But.stays (hg _ (Fr.keep (by assumption)))) ?_
    unfold adlV
    rw [← bin_arr]
    rw [← hP]
theorem adler2_spec {w : World} {A : Around} {G : Heap} {s : Shared} {Q : Value → Shared → Prop} {E : Value → Shared → Prop} {x : List UInt8} {tx : Tok} {n : Int} {tn : Tok} (S : Site w A G s.heap 5 40) (h0 : 0 ≤ n) (h1 : n < 4294967296)
    (ret : ∀ h' tk t v, s.heap.StaysIn h' → v = adlV (bin x) n → Q (.int v t) { s with heap := h', toks := tk }) :
    wpAny (model PySem.Challenge.rw_nu0004_01.row.prog w) A (call (.ref 83) [.bytes x.toArray tx, .int n tn]) Q E s := adlerG_spec (.inl rfl) S h0 h1 ret
theorem adler1_spec {w : World} {A : Around} {G : Heap} {s : Shared} {Q : Value → Shared → Prop} {E : Value → Shared → Prop} {x : List UInt8} {tx : Tok} (S : Site w A G s.heap 5 40)
    (ret : ∀ h' tk t v, s.heap.StaysIn h' → v = adlV (bin x) 1 → Q (.int v t) { s with heap := h', toks := tk }) :
    wpAny (model PySem.Challenge.rw_nu0004_01.row.prog w) A (call (.ref 83) [.bytes x.toArray tx]) Q E s := adlerG_spec (.inr ⟨rfl, rfl, rfl⟩) S (by decide) (by decide) ret
set_option maxRecDepth 100000 in
set_option maxHeartbeats 8000000 in
theorem adlerB_spec {w : World} {A : Around} {G : Heap} {s : Shared} {Q : Value → Shared → Prop} {E : Value → Shared → Prop} {a : Addr} {b : Array UInt8} (S : Site w A G s.heap 5 40) (ha : s.heap.get? a = some (baObj b))
    (ret : ∀ h' tk t v, s.heap.StaysIn h' → v = adlV (KBw.bInts b) 1 → Q (.int v t) { s with heap := h', toks := tk }) :
    wpAny (model PySem.Challenge.rw_nu0004_01.row.prog w) A (call (.ref 83) [.ref a]) Q E s := by
  obtain ⟨hdl, dpt, frm, gds, unt⟩ := A; obtain rfl : hdl = none := S.hnd
  have hK0 := S.kin; have hK9 := Frag.In.keeps S.kin S.gst; revert hK0; k_fill; intro hK0
  refine wpAny_call ?_
  refine' enter (binds := [(Str.ofString "octets", Value.ref a), (Str.ofString "begin", Value.int 1 274)]) S [] ?hh ?ho ?hcd ?hb ?hl ?_ ?c1 ?c2 ?c3 ?c4
  case hh => simp
  case ho => k_is
  case hcd => k_is
  case hb => first | exact hbnd _ _ _ _ (by k_is) | exact BindsTo.of_eq rfl | exact binds_K hK9 rfl (by k_is) rfl rfl rfl
  case hl => exact locs rfl
  case c1 => decide
  case c2 => exact rfl
  case c3 => exact rfl
  case c4 => exact rfl
  clear hK0 hK9
  intro g L' h₁ fr mean mg mb hg F N S' B X T l1
  dsimp only [List.length, List.map] at *
  try k_fold
  refine letA ?_; intro ak
  have haG : g.get? a = some (baObj b) := hg g (fun _ _ e => e) _ _ ha (by simp)
  clear S
  k_steps
  refine Hold.back ?_
  refine' kst_ba (σ := Int × Int × Tok × Tok) (fun _ => []) (fun c => [(Str.ofString "low", Value.int c.1 c.2.2.1), (Str.ofString "high", Value.int c.2.1 c.2.2.2)]) (fun _ => True) [Str.ofString "low", Str.ofString "high"]
    (fun pre c => 0 ≤ c.1 ∧ c.1 < 65536 ∧ 0 ≤ c.2.1 ∧ c.2.1 < 65536 ∧ (c.1, c.2.1) = adlF pre (1 % 65536, 1 / 65536)) (1 % 65536, 1 / 65536, _, _) haG rfl (by assumption) News.nil trivial ?hk ?hp ?turn ?done
  case hk => intro p hp; simp only [List.mem_cons, List.mem_nil_iff, or_false] at hp; rcases hp with rfl | rfl <;> rfl
  case hp => refine ⟨?_, ?_, ?_, ?_, rfl⟩ <;> dsimp only <;> omega
  case turn =>
    rintro ⟨lo, hi, tlo, thi⟩ pre post k t u h tk own hpre  hk0 hk1 hoff _ ⟨hl0, hl1, hh0, hh1, hP⟩ F' N'
    dsimp only at *
    k_fold
    k_steps
    refine' Hold.back (kst_end ((lo + k) % 65521, (hi + (lo + k) % 65521) % 65521, _, _) (by assumption) (by assumption) ?a ?b rfl trivial ?c ?d ?e)
    case a => intro p hp; cases hp
    case b => intro p hp; exact hp
    case c => intro p hp; simp only [List.mem_cons, List.mem_nil_iff, or_false] at hp; rcases hp with rfl | rfl <;> rfl
    case d =>
      intro z hz1 hz2 hz3
      have e1 := hz2 _ (List.mem_cons_self ..)
      have e2 := hz2 _ (List.mem_cons_of_mem _ (List.mem_cons_self ..))
      dsimp only at e1 e2
      simp only [kstB, if_neg hz1, if_neg e1, if_neg e2, hz3, Bool.false_eq_true, if_false]
    case e =>
      refine ⟨?_, ?_, ?_, ?_, ?_⟩
      · dsimp only; omega
      · dsimp only; omega
      · dsimp only; omega
      · dsimp only; omega
      · unfold adlF at hP ⊢; rw [List.foldl_append, ← hP]; rfl
  case done =>
    rintro ⟨lo, hi, tlo, thi⟩ u h tk  _ ⟨hl0, hl1, hh0, hh1, hP⟩ F' N'
    dsimp only at *
    k_steps
    refine ret _ _ _ _ (But.stays (hg _ (Fr.keep (by assumption)))) ?_
    unfold adlV
    rw [← hP]

end Mine
end
section
open PySem PySem.W PyProof.Rows
set_option Elab.async false
set_option linter.unusedVariables false
namespace Mine

set_option maxRecDepth 100000 in
set_option maxHeartbeats 8000000 in
theorem steps_spec {w : World} {A : Around} {G : Heap} {s : Shared} {Q : Value → Shared → Prop} {E : Value → Shared → Prop}
    (S : Site w A G s.heap 5 40)
    (ret : ∀ h' tk l vs n, s.heap.StaysIn h' → s.heap.get? l = none → h'.get? l = some (listOf (List.toArray vs) n) → IntsAre vs crcTab → Q (.ref l) { s with heap := h', toks := tk }) :
    wpAny (model PySem.Challenge.rw_nu0004_01.row.prog w) A (call (.ref 67) []) Q E s := by
  w_top off
  obtain ⟨hdl, dpt, frm, gds, unt⟩ := A; obtain rfl : hdl = none := S.hnd
  have hK0 := S.kin; have hK9 := Frag.In.keeps S.kin S.gst; revert hK0; k_fill; intro hK0
  refine wpAny_call ?_
  refine' enter (binds := []) S [] ?hh ?ho ?hcd ?hb ?hl ?_ ?c1 ?c2 ?c3 ?c4
  case hh => simp
  case ho => k_is
  case hcd => k_is
  case hb => first | exact hbnd _ _ _ _ (by k_is) | exact BindsTo.of_eq rfl | exact binds_K hK9 rfl (by k_is) rfl rfl rfl
  case hl => exact locs rfl
  case c1 => decide
  case c2 => exact rfl
  case c3 => exact rfl
  case c4 => exact rfl
  clear hK0 hK9
  intro g L' h₁ fr mean mg mb hg F N S' B X T l1
  dsimp only [List.length, List.map] at *
  try k_fold
  refine letA ?_; intro ak
  clear S
  k_steps
  refine Hold.back ?_
  rename_i l x1 x2 x3 x4 x5 h9 tk9 t1 u1 v1 hr hF hN hk
  refine' kst_range (σ := List Value × Nat) (n := 16) (fun c => [(l, listOf c.1.toArray c.2)]) (fun c => []) (fun _ => True) [Str.ofString "crc", Str.ofString "turn"]
    (fun pre c => IntsAre c.1 (pre.map (tIter 4))) ([], 0) rfl hr (by decide) (by decide) hF hN trivial ?hk IntsAre.nil ?turn ?done
  case hk => intro p hp; cases hp
  case turn =>
    rintro ⟨vs, n⟩ pre k t u h tk own hk1 hk2 hoff _ hP F' N'
    dsimp only at *
    have hk0 : 0 ≤ k ∧ k < 16 := by omega
    k_steps
    refine Hold.back ?_
    rename_i y1 y2 y3 h8 tk8 t2 u2 v2 hr2 hF2 hN2 hk22
    refine' kst_range (σ := Int × Tok) (n := 4) (fun _ => [(l, listOf vs.toArray n)] ++ own) (fun c => [(Str.ofString "crc", Value.int c.1 c.2)]) (fun _ => True) [Str.ofString "crc"]
      (fun pre c => 0 ≤ c.1 ∧ c.1 < 4294967296 ∧ c.1 = tIter pre.length k) (k, t) rfl hr2 (by decide) (by decide) hF2 hN2 trivial ?hk2 ?hp2 ?turn2 ?done2
    case hk2 => intro p hp; rcases List.mem_singleton.mp hp with rfl; rfl
    case hp2 => exact ⟨hk0.1, by dsimp only; omega, rfl⟩
    case turn2 =>
      rintro ⟨c, tc⟩ pre2 k2 t3 u3 h3 tk3 own2 hk31 hk32 hoff2 _ ⟨hc0, hc1, hc2⟩ F2 N2
      dsimp only at *
      have hst : tIter (pre2 ++ [k2]).length k = tStep c := by rw [List.length_append, hc2]; rfl
      k_steps
      · refine' Hold.back (kst_end (_, _) (by assumption) (by assumption) (fun p hp => List.mem_append_left _ hp) (fun p hp => List.mem_append_right _ hp) rfl trivial ?c1 ?d1 ?e1)
        case c1 => intro p hp; rcases List.mem_singleton.mp hp with rfl; rfl
        case d1 => (intro z hz1 hz2 hz3; simp only [List.contains_cons, List.contains_nil, Bool.or_false, Bool.or_eq_false_iff, beq_eq_false_iff_ne, ne_eq] at hz3; simp [kstB, hz1, hz3])
        case e1 =>
          have hne : ¬ c % 2 = 0 := by assumption
          refine ⟨by assumption, by assumption, ?_⟩
          subst_vars
          rw [hst]; unfold tStep; rw [if_neg hne]
      · refine' Hold.back (kst_end (_, _) (by assumption) (by assumption) (fun p hp => List.mem_append_left _ hp) (fun p hp => List.mem_append_right _ hp) rfl trivial ?c1 ?d1 ?e1)
        case c1 => intro p hp; rcases List.mem_singleton.mp hp with rfl; rfl
        case d1 => (intro z hz1 hz2 hz3; simp only [List.contains_cons, List.contains_nil, Bool.or_false, Bool.or_eq_false_iff, beq_eq_false_iff_ne, ne_eq] at hz3; simp [kstB, hz1, hz3])
        case e1 =>
          have hne : c % 2 = 0 := by assumption
          refine ⟨by dsimp only; omega, by dsimp only; omega, ?_⟩
          rw [hst]; unfold tStep; rw [if_pos hne]
    case done2 =>
      rintro ⟨c, tc⟩ u3 h3 tk3 _ ⟨hc0, hc1, hc2⟩ F2 N2
      dsimp only at *
      k_steps
      refine' Hold.back (kst_end (vs ++ [Value.int c tc], n + 1) (by assumption) (by assumption) ?a ?b rfl trivial ?c1 ?d1 ?e1)
      case a => intro p hp; rcases List.mem_singleton.mp hp with rfl; exact List.mem_cons.mpr (.inl (by rw [List.push_toArray]))
      case b => intro p hp; exact List.mem_cons_of_mem _ hp
      case c1 => intro p hp; cases hp
      case d1 => (intro z hz1 hz2 hz3; simp only [List.contains_cons, List.contains_nil, Bool.or_false, Bool.or_eq_false_iff, beq_eq_false_iff_ne, ne_eq] at hz3; simp [kstB, hz1, hz3])
      case e1 =>
        show IntsAre (vs ++ [Value.int c tc]) ((pre ++ [k]).map (tIter 4))
        rw [List.map_append]
        rw [rangeKs_length] at hc2
        rw [hc2]
        exact IntsAre.append hP (IntsAre.cons _ _ IntsAre.nil)
  case done => 
    rintro ⟨vs, n⟩ u h tk _ hP F' N'
    dsimp only at *
    k_steps
    refine ret _ _ _ vs n (But.stays (hg _ (Fr.keep F'))) ?_ (News.get N' (.head _)) ?_
    · cases q : s.heap.get? l with
      | none => rfl
      | some o =>
        have := hg g (fun _ _ e => e) _ _ q (by simp)
        rw [News.fresh N' (.head _)] at this; cases this
    · exact hP
end Mine
end
section
open PySem PySem.W PyProof.Rows
set_option Elab.async false
set_option linter.unusedVariables false
namespace Mine

section
variable {prog : Program} {w : World} {A : Around} {E : Value → Shared → Prop} {s : Shared} {h₀ : Heap} {L : Addr} {m : Str → Option Value} {news : List (Addr × Obj)} {G : Heap} {Q : Value → Shared → Prop}
theorem item_tab {value slice : Expr} {l : Addr} {vs : List Value} {k : Int} {u : Tok} (hl : s.heap.IsList l vs.toArray) (hi : IntsAre vs crcTab) (h0 : 0 ≤ k) (h1 : k < 16)
    (h : ∀ i t, i = crcTab.getD k.toNat 0 → 0 ≤ i → i < 4294967296 → Q (.int i t) s)
    (hs : subscripted slice false (.ref l) (.int k u) = operate [.ref l, .int k u] (getItem (.ref l) (.int k u)) := by with_unfolding_all rfl) (hg : ∀ r, letTemporaryGo value (.ref l) r = pure () := by intro _; with_unfolding_all rfl) :
    wpAny (model prog w) A (subscriptTail value slice (.ref l) (.int k u)) Q E s := by
  have hb := crcTab_get k h0 h1
  exact item_list_ints hl hi h0 (by rw [crcTab_len]; omega) (by omega) (fun t => h _ t rfl hb.1 hb.2) hs hg
theorem news_new {h' : Heap} {l : Addr} {o : Obj} (F : Fr h₀ L s.heap m) (N : News h₀ L s.heap news) (k : s.heap.StaysIn h') (hn : s.heap.get? l = none) (hl : h'.get? l = some o) : News h₀ L h' ((l, o) :: news) := fun q hq => by
  rcases List.mem_cons.mp hq with rfl | hq
  · refine ⟨hl, fun e => ?_, ?_⟩
    · obtain ⟨oL, _, _, hL, _⟩ := F.ns
      rw [← e, hn] at hL; cases hL
    · cases q : h₀.get? l with
      | none => rfl
      | some o' => have := F.keep _ _ q; rw [hn] at this; cases this
  · exact ⟨k _ _ (N q hq).1, (N q hq).2⟩
theorem steps_use (S : Site w A G s.heap 5 40) (F : Fr h₀ L s.heap m) (N : News h₀ L s.heap news)
    (ret : ∀ h' tk l vs n, Fr h₀ L h' m → News h₀ L h' ((l, listOf (List.toArray vs) n) :: news) → IntsAre vs crcTab → Q (.ref l) { s with heap := h', toks := tk }) :
    wpAny (model PySem.Challenge.rw_nu0004_01.row.prog w) A (call (.ref 67) []) Q E s :=
  steps_spec S fun h' tk l vs n k1 k2 k3 k4 => ret h' tk l vs n (F.keeps k1) (news_new F N k1 k2 k3) k4
end
local macro_rules | `(tactic| walk_at "call ref") => `(tactic| ((with_reducible show wpAny _ _ (call (Value.ref 67) _) _ _ _); k_dflt (refine' steps_use (by walk_at "S") (by k_asm) (by k_asm) ?_); intro h9 tk9 l9 vs9 n9 F9 N9 I9; (try k_sweep)))

local macro_rules | `(tactic| walk_at "subscriptTail Name BinOp ref int") => `(tactic| (k_dflt (refine' item_tab ?l ?i ?a ?b ?_; (case l => is_list); (case i => assumption); (case a => omega); (case b => omega)); intro i9 t9 e9 b9 c9))
set_option maxRecDepth 100000 in
set_option maxHeartbeats 8000000 in
theorem crcG_spec {w : World} {A : Around} {G : Heap} {s : Shared} {x : List UInt8} {tx : Tok} {n : Int} {tn : Tok} {Q : Value → Shared → Prop} {E : Value → Shared → Prop} {pos : List Value} (hp9 : pos = [.bytes x.toArray tx, .int n tn] ∨ (pos = [.bytes x.toArray tx] ∧ n = 0 ∧ tn = 263))
    (S : Site w A G s.heap 6 60) (h0 : 0 ≤ n) (h1 : n < 4294967296)
    (ret : ∀ h' tk t v, s.heap.StaysIn h' → v = crcV (bin x) n → Q (.int v t) { s with heap := h', toks := tk }) :
    wpAny (model PySem.Challenge.rw_nu0004_01.row.prog w) A (call (.ref 75) pos) Q E s := by
  w_top off
  obtain ⟨hdl, dpt, frm, gds, unt⟩ := A; obtain rfl : hdl = none := S.hnd
  have hK0 := S.kin; have hK9 := Frag.In.keeps S.kin S.gst; revert hK0; k_fill; intro hK0
  refine wpAny_call ?_
  refine' enter (binds := [(Str.ofString "octets", Value.bytes x.toArray tx), (Str.ofString "crc", Value.int n tn)]) S [] ?hh ?ho ?hcd ?hb ?hl ?_ ?c1 ?c2 ?c3 ?c4
  case hh => simp
  case ho => k_is
  case hcd => k_is
  case hb => (rcases hp9 with rfl | ⟨rfl, rfl, rfl⟩) <;> first | exact hbnd _ _ _ _ (by k_is) | exact BindsTo.of_eq rfl | exact binds_K hK9 rfl (by k_is) rfl rfl rfl
  case hl => exact locs rfl
  case c1 => decide
  case c2 => exact rfl
  case c3 => exact rfl
  case c4 => exact rfl
  clear hK0 hK9
  intro g L' h₁ fr mean mg mb hg F N S' B X T l1
  dsimp only [List.length, List.map] at *
  try k_fold
  refine letA ?_; intro ak
  clear S hp9
  k_steps
  refine Hold.back ?_
  rename_i l9 vs9 n9 I9 h8 r9 hr0 hr1 hr2 h7 F9 N9
  refine' KStb.kst_bytes (σ := Int × Tok) (fun _ => [(l9, listOf vs9.toArray n9)]) (fun c => [(Str.ofString "crc", Value.int c.1 c.2)]) (fun _ => True) [Str.ofString "crc"]
    (fun pre c => 0 ≤ c.1 ∧ c.1 < 4294967296 ∧ c.1 = crcF pre (Builtin.bitXor n 4294967295)) (r9, _) rfl rfl rfl F9 N9 trivial ?hk ?hp ?turn ?done
  case hk => intro p hp; rcases List.mem_singleton.mp hp with rfl; rfl
  case hp => exact ⟨hr1, hr2, hr0⟩
  case turn =>
    rintro ⟨c, tc⟩ pre post k t u h tk own hpre hlen hk0 hk1 hoff _ ⟨hc0, hc1, hP⟩ F' N'
    dsimp only at *
    k_steps
    refine' Hold.back (kst_end (_, _) (by assumption) (by assumption) (fun p hp => List.mem_append_left _ hp) (fun p hp => List.mem_append_right _ hp) rfl trivial ?c1 ?d1 ?e1)
    case c1 => intro p hp; rcases List.mem_singleton.mp hp with rfl; rfl
    case d1 => (intro z hz1 hz2 hz3; simp only [List.contains_cons, List.contains_nil, Bool.or_false, Bool.or_eq_false_iff, beq_eq_false_iff_ne, ne_eq] at hz3; simp [kstB, hz1, hz3])
    case e1 =>
      refine ⟨by assumption, by assumption, ?_⟩
      unfold crcF at hP ⊢
      rw [List.foldl_append, ← hP]
      subst_vars
      rfl
  case done =>
    rintro ⟨c, tc⟩ u h tk hlen _ ⟨hc0, hc1, hP⟩ F' N'
    dsimp only at *
    k_steps
    refine ret _ _ _ _ (But.stays (hg _ (Fr.keep (by assumption)))) ?_
    unfold crcV
    rw [← bin_arr, ← hP]
    assumption
theorem crc2_spec {w : World} {A : Around} {G : Heap} {s : Shared} {x : List UInt8} {tx : Tok} {n : Int} {tn : Tok} {Q : Value → Shared → Prop} {E : Value → Shared → Prop}
    (S : Site w A G s.heap 6 60) (h0 : 0 ≤ n) (h1 : n < 4294967296)
    (ret : ∀ h' tk t v, s.heap.StaysIn h' → v = crcV (bin x) n → Q (.int v t) { s with heap := h', toks := tk }) :
    wpAny (model PySem.Challenge.rw_nu0004_01.row.prog w) A (call (.ref 75) [.bytes x.toArray tx, .int n tn]) Q E s := crcG_spec (.inl rfl) S h0 h1 ret
theorem crc1_spec {w : World} {A : Around} {G : Heap} {s : Shared} {x : List UInt8} {tx : Tok} {Q : Value → Shared → Prop} {E : Value → Shared → Prop}
    (S : Site w A G s.heap 6 60)
    (ret : ∀ h' tk t v, s.heap.StaysIn h' → v = crcV (bin x) 0 → Q (.int v t) { s with heap := h', toks := tk }) :
    wpAny (model PySem.Challenge.rw_nu0004_01.row.prog w) A (call (.ref 75) [.bytes x.toArray tx]) Q E s := crcG_spec (.inr ⟨rfl, rfl, rfl⟩) S (by decide) (by decide) ret
end Mine
end
section
open PySem PySem.W PyProof.Rows
set_option Elab.async false
set_option linter.unusedVariables false
namespace Mine

set_option maxRecDepth 100000 in
set_option maxHeartbeats 8000000 in
theorem sum_spec {w : World} {A : Around} {G : Heap} {s : Shared} {x : List UInt8} {tx : Tok} {Q : Value → Shared → Prop} {E : Value → Shared → Prop}
    (S : Site w A G s.heap 5 40)
    (ret : ∀ h' tk t v, s.heap.StaysIn h' → v = sumV (bin x) → Q (.int v t) { s with heap := h', toks := tk }) :
    wpAny (model PySem.Challenge.rw_nu0004_01.row.prog w) A (call (.ref 140) [.bytes x.toArray tx]) Q E s := by
  w_top off
  obtain ⟨hdl, dpt, frm, gds, unt⟩ := A; obtain rfl : hdl = none := S.hnd
  have hK0 := S.kin; have hK9 := Frag.In.keeps S.kin S.gst; revert hK0; k_fill; intro hK0
  refine wpAny_call ?_
  refine' enter (binds := [(Str.ofString "octets", Value.bytes x.toArray tx)]) S [] ?hh ?ho ?hcd ?hb ?hl ?_ ?c1 ?c2 ?c3 ?c4
  case hh => simp
  case ho => k_is
  case hcd => k_is
  case hb => first | exact hbnd _ _ _ _ (by k_is) | exact BindsTo.of_eq rfl | exact binds_K hK9 rfl (by k_is) rfl rfl rfl
  case hl => exact locs rfl
  case c1 => decide
  case c2 => exact rfl
  case c3 => exact rfl
  case c4 => exact rfl
  clear hK0 hK9
  intro g L' h₁ fr mean mg mb hg F N S' B X T l1
  dsimp only [List.length, List.map] at *
  try k_fold
  refine letA ?_; intro ak
  clear S
  k_steps
  refine Hold.back ?_
  refine' KStb.kst_bytes (σ := Int × Int × Tok × Tok) (fun _ => []) (fun c => [(Str.ofString "low", Value.int c.1 c.2.2.1), (Str.ofString "high", Value.int c.2.1 c.2.2.2)]) (fun _ => True) [Str.ofString "low", Str.ofString "high"]
    (fun pre c => (c.1, c.2.1) = sumF pre) (1, 0, _, _) rfl rfl rfl (by assumption) News.nil trivial ?hk ?hp ?turn ?done
  case hk => intro p hp; simp only [List.mem_cons, List.mem_nil_iff, or_false] at hp; rcases hp with rfl | rfl <;> rfl
  case hp => exact rfl
  case turn =>
    rintro ⟨lo, hi, tlo, thi⟩ pre post k t u h tk own hpre hlen hk0 hk1 hoff _ hP F' N'
    dsimp only at *
    k_steps
    refine' Hold.back (kst_end (lo + k, hi + (lo + k), _, _) (by assumption) (by assumption) ?a ?b rfl trivial ?c ?d ?e)
    case a => intro p hp; cases hp
    case b => intro p hp; exact hp
    case c => intro p hp; simp only [List.mem_cons, List.mem_nil_iff, or_false] at hp; rcases hp with rfl | rfl <;> rfl
    case d =>
      intro z hz1 hz2 hz3
      have e1 := hz2 _ (List.mem_cons_self ..)
      have e2 := hz2 _ (List.mem_cons_of_mem _ (List.mem_cons_self ..))
      dsimp only at e1 e2
      simp only [kstB, if_neg hz1, if_neg e1, if_neg e2, hz3, Bool.false_eq_true, if_false]
    case e => unfold sumF at hP ⊢; rw [List.foldl_append, ← hP]; rfl
  case done =>
    rintro ⟨lo, hi, tlo, thi⟩ u h tk hlen _ hP F' N'
    dsimp only at *
    k_steps
    refine ret _ _ _ _ (But.stays (hg _ (Fr.keep (by assumption)))) ?_
    unfold sumV
    rw [← bin_arr, ← hP]
set_option maxRecDepth 100000 in
set_option maxHeartbeats 8000000 in
theorem check_spec {w : World} {A : Around} {G : Heap} {s : Shared} {x : List UInt8} {tx : Tok} {Q : Value → Shared → Prop} {E : Value → Shared → Prop}
    (S : Site w A G s.heap 5 40)
    (ret : ∀ h' tk t v, s.heap.StaysIn h' → v = checkV (bin x) → Q (.int v t) { s with heap := h', toks := tk }) :
    wpAny (model PySem.Challenge.rw_nu0004_01.row.prog w) A (call (.ref 133) [.bytes x.toArray tx]) Q E s := by
  obtain ⟨hdl, dpt, frm, gds, unt⟩ := A; obtain rfl : hdl = none := S.hnd
  have hK0 := S.kin; have hK9 := Frag.In.keeps S.kin S.gst; revert hK0; k_fill; intro hK0
  refine wpAny_call ?_
  refine' enter (binds := [(Str.ofString "octets", Value.bytes x.toArray tx)]) S [] ?hh ?ho ?hcd ?hb ?hl ?_ ?c1 ?c2 ?c3 ?c4
  case hh => simp
  case ho => k_is
  case hcd => k_is
  case hb => first | exact hbnd _ _ _ _ (by k_is) | exact BindsTo.of_eq rfl | exact binds_K hK9 rfl (by k_is) rfl rfl rfl
  case hl => exact locs rfl
  case c1 => decide
  case c2 => exact rfl
  case c3 => exact rfl
  case c4 => exact rfl
  clear hK0 hK9
  intro g L' h₁ fr mean mg mb hg F N S' B X T l1
  dsimp only [List.length, List.map] at *
  try k_fold
  refine letA ?_; intro ak
  clear S
  k_steps
  refine Hold.back ?_
  rename_i F9 N9
  refine' KStb.kst_bytes (σ := Int × Tok) (fun _ => []) (fun c => [(Str.ofString "rest", Value.int c.1 c.2)]) (fun _ => True) [Str.ofString "rest", Str.ofString "low", Str.ofString "bit"]
    (fun pre c => 0 ≤ c.1 ∧ c.1 < 4294967296 ∧ c.1 = dF pre) (2 ^ Int.toNat 32 - 1, _) rfl rfl rfl F9 News.nil trivial ?hk ?hp ?turn ?done
  case hk => intro p hp; rcases List.mem_singleton.mp hp with rfl; rfl
  case hp =>
    have e32 : (2 : Int) ^ Int.toNat 32 - 1 = 4294967295 := by decide
    dsimp only
    rw [e32]
    exact ⟨by decide, by decide, rfl⟩
  case turn =>
    rintro ⟨r, tr⟩ pre post k t u h tk own hpre hlen hk0 hk1 hoff _ ⟨hr0, hr1, hP⟩ F' N'
    dsimp only at *
    k_steps
    refine Hold.back ?_
    rename_i y1 y2 y3 h8 tk8 t2 u2 v2 hr2 hF2 hN2 hk22
    refine' kst_range (σ := Int × Tok) (n := 8) (fun _ => [] ++ own) (fun c => [(Str.ofString "rest", Value.int c.1 c.2)]) (fun _ => True) [Str.ofString "rest", Str.ofString "low"]
      (fun pre2 c => 0 ≤ c.1 ∧ c.1 < 4294967296 ∧ c.1 = (List.range pre2.length).foldl (dStep k) r) (r, tr) rfl hr2 (by decide) (by decide) hF2 hN2 trivial ?hk2 ?hp2 ?turn2 ?done2
    case hk2 => intro p hp; rcases List.mem_singleton.mp hp with rfl; rfl
    case hp2 => exact ⟨hr0, hr1, rfl⟩
    case turn2 =>
      rintro ⟨c, tc⟩ pre2 k2 t3 u3 h3 tk3 own2 hk31 hk32 hoff2 _ ⟨hc0, hc1, hc2⟩ F2 N2
      dsimp only at *
      have hk4 : 0 ≤ k2 ∧ k2 < 8 := by omega
      have hk5 : k2.toNat = pre2.length := by omega
      have hst : (List.range (pre2 ++ [k2]).length).foldl (dStep k) r = dStep k c k2.toNat := by rw [List.length_append, List.length_singleton, List.range_succ, List.foldl_append, ← hc2, hk5]; rfl
      k_steps
      · refine' Hold.back (kst_end (_, _) (by assumption) (by assumption) (fun p hp => List.mem_append_left _ hp) (fun p hp => List.mem_append_right _ hp) rfl trivial ?c1 ?d1 ?e1)
        case c1 => intro p hp; rcases List.mem_singleton.mp hp with rfl; rfl
        case d1 => (intro z hz1 hz2 hz3; simp only [List.contains_cons, List.contains_nil, Bool.or_false, Bool.or_eq_false_iff, beq_eq_false_iff_ne, ne_eq] at hz3; simp [kstB, hz1, hz3])
        case e1 =>
          refine ⟨by assumption, by assumption, ?_⟩
          rw [hst]
          unfold dStep
          subst_vars
          rw [if_pos (by assumption)]
      · refine' Hold.back (kst_end (_, _) (by assumption) (by assumption) (fun p hp => List.mem_append_left _ hp) (fun p hp => List.mem_append_right _ hp) rfl trivial ?c1 ?d1 ?e1)
        case c1 => intro p hp; rcases List.mem_singleton.mp hp with rfl; rfl
        case d1 => (intro z hz1 hz2 hz3; simp only [List.contains_cons, List.contains_nil, Bool.or_false, Bool.or_eq_false_iff, beq_eq_false_iff_ne, ne_eq] at hz3; simp [kstB, hz1, hz3])
        case e1 =>
          refine ⟨by dsimp only; omega, by dsimp only; omega, ?_⟩
          rw [hst]
          unfold dStep
          subst_vars
          rw [if_neg (by assumption)]
    case done2 =>
      rintro ⟨c, tc⟩ u3 h3 tk3 _ ⟨hc0, hc1, hc2⟩ F2 N2
      dsimp only at *
      k_steps
      refine' Hold.back (kst_end (c, tc) (by assumption) (by assumption) ?a ?b rfl trivial ?c1 ?d1 ?e1)
      case a => intro p hp; cases hp
      case b => intro p hp; exact hp
      case c1 => intro p hp; rcases List.mem_singleton.mp hp with rfl; rfl
      case d1 => (intro z hz1 hz2 hz3; simp only [List.contains_cons, List.contains_nil, Bool.or_false, Bool.or_eq_false_iff, beq_eq_false_iff_ne, ne_eq] at hz3; simp [kstB, hz1, hz3])
      case e1 =>
        refine ⟨hc0, hc1, ?_⟩
        show c = dF (pre ++ [k])
        unfold dF at hP ⊢
        rw [List.foldl_append, ← hP]
        rw [rangeKs_length] at hc2
        exact hc2
  case done =>
    rintro ⟨r, tr⟩ u h tk hlen _ ⟨hr0, hr1, hP⟩ F' N'
    dsimp only at *
    k_steps
    refine ret _ _ _ _ (But.stays (hg _ (Fr.keep (by assumption)))) ?_
    have e32 : (2 : Int) ^ Int.toNat 32 - 1 = 4294967295 := by decide
    unfold checkV
    rw [← bin_arr, ← hP, e32]
end Mine
end
section
open PySem PySem.W PyProof.Rows Mine
local macro_rules | `(tactic| walk_at "Z") => `(tactic| ((try simp only [List.length_take, List.length_drop]); omega))
local macro_rules | `(tactic| walk_at "subscriptTail") => `(tactic| ((with_reducible show wpAny _ _ (subscriptTail _ (Expr.Slice _ _ none _) (Value.bytes (List.toArray _) _) (Value.ref _)) _ _ _); (with_reducible rename Fr _ _ _ _ => F'); (with_reducible rename News _ _ _ _ => N'); k_dflt (refine' slice_L (s := ⟨_, _, _, _, _⟩) F' N' (by constructor) (by constructor) ?z ?y ?_; (case z => walk_at "Z"); (case y => first | (with_reducible refine cut_t ?_; omega) | (with_reducible refine cut_n ?_; omega) | (with_reducible refine cut_f ?_; omega) | exact cut_fa (by omega) (by omega) | exact cut_fs (by omega) (by omega))); intro _ _ _ _ _; (try k_sweep)))
local macro_rules | `(tactic| walk_at "call type:list") => `(tactic| ((with_reducible show wpAny _ _ (call (Value.type "list") [Value.bytes (List.toArray _) _]) _ _ _); k_dflt (refine' lb_N rfl (by k_asm) (by k_asm) ?z ?_; (case z => walk_at "Z")); intro D' n' h' tk' vs' F' N' l1 i1; (try k_lt l1); (try k_sweep)))
local macro_rules | `(tactic| walk_at "call builtin:len") => `(tactic| ((with_reducible show wpAny _ _ (call (Value.builtin "len") [_]) _ _ _); k_dflt (first | (refine' len_L ?z ?_; (case z => walk_at "Z")) | (refine' len_listB (by is_list) (by assumption) ?z ?_; (case z => walk_at "Z"))); intro _ e9; (try simp only [List.length_take, List.length_drop] at e9); (try dsimp only)))
local macro_rules | `(tactic| walk_at "exec Raise some none") => `(tactic| refine Raise_expr rfl ?_)
local macro_rules | `(tactic| walk_at "call ref") => `(tactic| ((with_reducible show wpAny _ _ (call (Value.ref 44) _) _ _ _); k_dflt (refine' sf_use (by walk_at "S") ?_); intro h9 e9 tk9 hm9))
section
open PySem PySem.W PyProof.Rows
set_option Elab.async false
set_option linter.unusedVariables false
namespace Mine


set_option maxRecDepth 100000 in
set_option maxHeartbeats 400000 in
theorem bsz_spec {w : World} {A : Around} {G : Heap} {fr₀ : List Env} {s : Shared} {x : List UInt8} {tx : Tok} {n : Int} {tn : Tok} {Q : Value → Shared → Prop} {E : Value → Shared → Prop}
    (S : Site w A G s.heap 8 80) (hfr : A.frames = some fr₀) (hx : x.length < 1000000) (h0 : 0 ≤ n)
    (ret : ∀ h' tk t v, s.heap.StaysIn h' → bsz x n = some v → Q (.int v t) { s with heap := h', toks := tk })
    (hE : bsz x n = none → Faults G fr₀ s E) :
    wpAny (model PySem.Challenge.rw_nu0004_01.row.prog w) A (call (.ref 98) [.bytes x.toArray tx, .int n tn]) Q E s := by
  w_top off
  obtain ⟨hdl, dpt, frm, gds, unt⟩ := A; obtain rfl : hdl = none := S.hnd
  have hK0 := S.kin; have hK9 := Frag.In.keeps S.kin S.gst; revert hK0; k_fill; intro hK0
  refine wpAny_call ?_
  refine' enter (binds := [(Str.ofString "octets", Value.bytes x.toArray tx), (Str.ofString "at", Value.int n tn)]) S [] ?hh ?ho ?hcd ?hb ?hl ?_ ?c1 ?c2 ?c3 ?c4
  case hh => simp
  case ho => k_is
  case hcd => k_is
  case hb => first | exact hbnd _ _ _ _ (by k_is) | exact BindsTo.of_eq rfl | exact binds_K hK9 rfl (by k_is) rfl rfl rfl
  case hl => exact locs rfl
  case c1 => decide
  case c2 => exact rfl
  case c3 => exact rfl
  case c4 => exact rfl
  clear hK0 hK9
  intro g L' h₁ fr mean mg mb hg F N S' B X T l1
  dsimp only [List.length, List.map] at *
  try k_fold
  refine letA ?_; intro ak
  obtain rfl : fr = fr₀ := Option.some.inj (B.stack.symm.trans hfr)
  clear S
  k_steps
  · rename_i h9 e9 tk9 hm9
    refine fault_end (fun h => h) X B rfl rfl hm9 (by assumption) ?_
    intro h' a0 hfl
    refine hE ?_ _ _ _ _ hfl
    unfold bsz; rw [if_pos (by omega)]
  · rename_i h9 e9 tk9 hm9
    refine fault_end (fun h => h) X B rfl rfl hm9 (by assumption) ?_
    intro h' a0 hfl
    refine hE ?_ _ _ _ _ hfl
    subst_vars
    unfold bsz at8; rw [if_neg (by omega), if_pos (by assumption)]
  · rename_i h9 e9 tk9 hm9
    refine fault_end (fun h => h) X B rfl rfl hm9 (by assumption) ?_
    intro h' a0 hfl
    refine hE ?_ _ _ _ _ hfl
    subst_vars
    unfold bsz at8; rw [if_neg (by omega), if_neg (by omega), if_pos (.inl (by assumption))]
  · rename_i h9 e9 tk9 hm9
    refine fault_end (fun h => h) X B rfl rfl hm9 (by assumption) ?_
    intro h' a0 hfl
    refine hE ?_ _ _ _ _ hfl
    subst_vars
    unfold bsz at8; rw [if_neg (by omega), if_neg (by omega), if_pos (.inr (by assumption))]
  · refine ret _ _ _ _ (But.stays (hg _ (Fr.keep (by assumption)))) ?_
    subst_vars
    unfold bsz at8
    rw [if_neg (by omega), if_neg (by omega), if_neg]
    rintro (hc | hc) <;> omega
end Mine
end
section
open PySem PySem.W PyProof.Rows
set_option Elab.async false
set_option linter.unusedVariables false
namespace Mine

section
variable {w : World} {A : Around} {G h₀ : Heap} {L : Addr} {m : Str → Option Value} {s : Shared} {news : List (Addr × Obj)} {x : List UInt8} {tx tn : Tok} {n : Int} {Q : Value → Shared → Prop} {E : Value → Shared → Prop} {fr₀ : List Env}
theorem bsz_use (S : Site w A G s.heap 8 80) (hfr : A.frames = some fr₀) (F : Fr h₀ L s.heap m) (N : News h₀ L s.heap news) (hx : x.length < 1000000) (h0 : 0 ≤ n)
    (ret : ∀ h' tk t v, Fr h₀ L h' m → News h₀ L h' news → bsz x n = some v → Q (.int v t) { s with heap := h', toks := tk })
    (hE : bsz x n = none → Faults G fr₀ s E) : wpAny (model PySem.Challenge.rw_nu0004_01.row.prog w) A (call (.ref 98) [.bytes x.toArray tx, .int n tn]) Q E s :=
  bsz_spec S hfr hx h0 (fun h' tk t v k e => ret h' tk t v (F.keeps k) (News.keeps N k) e) hE
theorem get32_use (S : Site w A G s.heap 5 40) (F : Fr h₀ L s.heap m) (N : News h₀ L s.heap news) (h0 : 0 ≤ n) (h1 : n + 4 ≤ (x.length : Int)) (h2 : x.length < 1000000)
    (ret : ∀ h' tk t v, Fr h₀ L h' m → News h₀ L h' news → v = val32 x n → Q (.int v t) { s with heap := h', toks := tk }) : wpAny (model PySem.Challenge.rw_nu0004_01.row.prog w) A (call (.ref 60) [.bytes x.toArray tx, .int n tn]) Q E s :=
  get32_spec S h0 h1 h2 fun h' tk t v k e => ret h' tk t v (F.keeps k) (News.keeps N k) e
theorem adlB_use {a : Addr} {b : Array UInt8} (S : Site w A G s.heap 5 40) (F : Fr h₀ L s.heap m) (N : News h₀ L s.heap news) (hm : (a, baObj b) ∈ news)
    (ret : ∀ h' tk t v, Fr h₀ L h' m → News h₀ L h' news → v = adlV (KBw.bInts b) 1 → Q (.int v t) { s with heap := h', toks := tk }) : wpAny (model PySem.Challenge.rw_nu0004_01.row.prog w) A (call (.ref 83) [.ref a]) Q E s :=
  adlerB_spec S (N.get hm) fun h' tk t v k e => ret h' tk t v (F.keeps k) (News.keeps N k) e
end
theorem news_grow {h₀ h h' : Heap} {L l : Addr} {m : Str → Option Value} {news : List (Addr × Obj)} {o : Obj} (F : Fr h₀ L h m) (N : News h₀ L h news) (k : h.StaysIn h') (hn : h.get? l = none) (hl : h'.get? l = some o) : News h₀ L h' ((l, o) :: news) := fun q hq => by
  rcases List.mem_cons.mp hq with rfl | hq
  · refine ⟨hl, fun e => ?_, ?_⟩
    · obtain ⟨oL, _, _, hL, _⟩ := F.ns
      rw [← e, hn] at hL; cases hL
    · cases q : h₀.get? l with
      | none => rfl
      | some o' => have := F.keep _ _ q; rw [hn] at this; cases this
  · exact ⟨k _ _ (N q hq).1, (N q hq).2⟩
local macro_rules | `(tactic| walk_at "call ref") => `(tactic| ((with_reducible show wpAny _ _ (call (Value.ref 60) _) _ _ _); k_dflt (refine' get32_use (by walk_at "S") (by k_asm) (by k_asm) ?h0 ?h1 ?h2 ?_; (case h0 => omega); (case h1 => omega); (case h2 => omega)); intro h9 tk9 t9 v9 F9 N9 e9; (try k_sweep)))
local macro_rules | `(tactic| walk_at "call ref") => `(tactic| ((with_reducible show wpAny _ _ (call (Value.ref 83) [Value.ref _]) _ _ _); k_dflt (refine' adlB_use (by walk_at "S") (by k_asm) (by k_asm) (by k_mem) ?_); intro h9 tk9 t9 v9 F9 N9 e9; (try k_sweep)))
local macro_rules | `(tactic| walk_at "call ref") => `(tactic| ((with_reducible show wpAny _ _ (call (Value.ref 98) _) _ _ _); k_dflt (refine' bsz_use (by walk_at "S") (Around.frames_deeper (by assumption)) (by k_asm) (by k_asm) ?hx ?h0 ?_ ?_; (case hx => omega); (case h0 => omega))))

set_option maxRecDepth 100000 in
set_option maxHeartbeats 8000000 in
theorem uns_spec {w : World} {A : Around} {G : Heap} {fr₀ : List Env} {s : Shared} {x : List UInt8} {tx : Tok} {Q : Value → Shared → Prop} {E : Value → Shared → Prop}
    (S : Site w A G s.heap 10 90) (hfr : A.frames = some fr₀) (hx : x.length < 1000000) (h2 : 2 ≤ x.length) (hx0 : x.getD 0 0 = 120) (hx1 : x.getD 1 0 = 1)
    (ret : ∀ h' tk t v, s.heap.StaysIn h' → unsV x = some v → Q (.bytes v.toArray t) { s with heap := h', toks := tk })
    (hE : unsV x = none → Faults G fr₀ s E) :
    wpS (model PySem.Challenge.rw_nu0004_01.row.prog w) A (call (.ref 105) [.bytes x.toArray tx]) Q E s := by
  w_top off
  obtain ⟨hdl, dpt, frm, gds, unt⟩ := A; obtain rfl : hdl = none := S.hnd
  have hK0 := S.kin; have hK9 := Frag.In.keeps S.kin S.gst; revert hK0; k_fill; intro hK0
  refine wpS_call ?_
  refine' enterS (binds := [(Str.ofString "octets", Value.bytes x.toArray tx)]) S [] ?hh ?ho ?hcd ?hb ?hl ?_ ?c1 ?c2 ?c3 ?c4
  case hh => simp
  case ho => k_is
  case hcd => k_is
  case hb => first | exact hbnd _ _ _ _ (by k_is) | exact BindsTo.of_eq rfl | exact binds_K hK9 rfl (by k_is) rfl rfl rfl
  case hl => exact locs rfl
  case c1 => decide
  case c2 => exact rfl
  case c3 => exact rfl
  case c4 => exact rfl
  clear hK0 hK9
  intro g L' h₁ fr mean mg mb hg F N S' B X T l1
  dsimp only [List.length, List.map] at *
  
  refine letS ?_; intro ak qk ek
  obtain rfl : fr = fr₀ := Option.some.inj (B.stack.symm.trans hfr)
  clear S
  have hv0 : (((x.getD (Int.toNat 0) 0).toNat : Nat) : Int) = 120 := by
    show (((x.getD 0 0).toNat : Nat) : Int) = 120
    rw [hx0]; rfl
  have hv1 : (((x.getD (Int.toNat 1) 0).toNat : Nat) : Int) = 1 := by
    show (((x.getD 1 0).toNat : Nat) : Int) = 1
    rw [hx1]; rfl
  refine wpS_execs_any ?_
  k_fold
  k_steps
  all_goals try (exfalso; omega; done)
  · exfalso
    have key : ∀ k : Int, k = 1 → Builtin.bitAnd k 32 ≠ 0 → False := by rintro k rfl h; exact h (by decide)
    refine key _ ?_ (by assumption)
    omega
  clear hv0 hv1
  show wpS _ _ (execs _ _) _ _ _
  refine wpS_execs_cons ?_
  refine wpS_Assign_swapped (names := [Str.ofString "found", Str.ofString "at", Str.ofString "is_last"]) ?_ (by rfl) (by rfl)
  refine wpS_Tuple ?_
  refine wpS_spliced_first ?_ (by rfl)
  refine wpS_Call ?_ (by rfl)
  k_steps
  refine wpS_callWith_ty rfl ?_
  refine evalArgs_empty ?_
  refine callS_ba0 ?_
  intro h' ha hk
  have hn : h₁.get? h₁.objs.size = none := Heap.get?_none_of_le (Nat.le_refl _)
  dsimp only at ha hk ⊢
  have F0 := ‹Fr g L' h₁ _›
  have N2 := news_grow F0 N hk hn ha
  have F2 := F0.keeps hk
  clear hn ha hk F0
  rename Fr g L' h₁ _ => F0
  clear F0 N
  generalize h₁.objs.size = a at *
  k_steps
  rename_i D9 h9 h8 h7 h6 F9 N9
  refine wpS_execs_cons ?_
  refine' ksS_while (σ := List UInt8 × Int × Tok × Bool × Nat) (fun c => [(a, baObj c.1.toArray)]) (fun c => [(Str.ofString "at", Value.int c.2.1 c.2.2.1), (Str.ofString "is_last", Value.bool c.2.2.2.1)]) (fun _ => True)
    [Str.ofString "size", Str.ofString "is_last", Str.ofString "at"]
    (fun c => UnsP x c.1 c.2.1 c.2.2.2.1 c.2.2.2.2) (fun c => ((x.length : Int) + 1 - c.2.1).toNat) ([], 2, _, false, x.length + 1) F9 ?hN trivial ?hk ?hp ?turn ?hE
  case hN => exact fun p hp => N9 p (List.mem_cons_of_mem _ hp)
  case hk => intro p hp; simp only [List.mem_cons, List.mem_nil_iff, or_false] at hp; rcases hp with rfl | rfl <;> rfl
  case hp => exact ⟨by dsimp only; omega, by dsimp only; omega, by dsimp only [List.length]; omega, .inl ⟨rfl, rfl, by dsimp only; omega⟩⟩
  case hE => passes_own
  case turn =>
    rintro ⟨b, at_, ta, last, fu⟩ u h tk _ hP F N
    dsimp only at *
    clear F9 N9
    cases last
    · have hP' := hP
      obtain ⟨q0, q1, q2, _⟩ := hP'
      k_steps
      refine wpS_execs_any ?_
      k_fold
      k_steps
      · have ez := ‹bsz x at_ = some _›
        obtain ⟨z0, z1, z2, _⟩ := bsz_some ez q0
        refine wpS_execs_any ?_
        k_fold
        k_steps
        refine wpS_execs_cons ?_
        refine wpS_Expr_none ?_ (by rfl) (by rfl)
        refine wpS_MethodCall ?_ (by rfl)
        k_steps
        have N7 := ‹News g L' _ [(a, baObj b.toArray)]›
        refine ba_ext_method (N7 _ (.head _)).1 ?_
        refine wpS_callWith_bi rfl ?_
        clear N7
        refine evalArgs_one ?_ (by rfl)
        k_steps
        have N8 := ‹News g L' _ [(a, baObj b.toArray)]›
        have F8 := ‹Fr g L' _ _›
        have hl8 : ∀ k : Nat, (List.take k (x.drop (at_ + 5).toNat)).length ≤ x.length := fun k => by
          rw [List.length_take, List.length_drop]; omega
        refine ext_bytes (N8 _ (.head _)).1 ?_ fun h8 hb8 hs8 => ⟨rfl, ?_⟩
        · rw [Array.size_append, List.size_toArray, List.size_toArray, sizeLine_eq]
          exact Nat.le_trans (Nat.add_le_add_left (hl8 _) _) (by omega)
        have kb : But [a] _ h8 := fun c o e hc => (hs8.2 c (fun q => hc (List.mem_singleton.mpr q))).trans e
        have F9 := Fr.but F8 kb (N8 _ (.head _)).2.1 (N8 _ (.head _)).2.2
        have N9 := News.but N8 kb hb8 (fun p hp => by cases hp)
        rw [List.append_toArray] at N9
        clear F8 N8 kb hs8 hb8
        dsimp only at F9 N9 ⊢
        refine wpS_execs_any ?_
        k_fold
        k_steps
        have st := hP.step ez ‹_ = (((x.getD at_.toNat 0).toNat : Nat) : Int)›
        have F7 := ‹Fr g L' _ _›
        have N7 := ‹News g L' _ _›
        show wpS _ _ (execs [] _) _ _ _
        refine wpS_of_any (wpAny_execs_nil ?_)
        refine' ksw_end (_, _, _, _, fu - 1) F7 N7 ?hn2 trivial ?hk2 ?hr2 ?hp2 ?hm2
        case hk2 => intro p hp; simp only [List.mem_cons, List.mem_nil_iff, or_false] at hp; rcases hp with rfl | rfl <;> rfl
        case hn2 => intro p hp; rcases List.mem_singleton.mp hp with rfl; exact .head _
        case hr2 => (intro z hz2 hz3; simp only [List.contains_cons, List.contains_nil, Bool.or_false, Bool.or_eq_false_iff, beq_eq_false_iff_ne, ne_eq] at hz3; simp [kstB, hz3])
        case hp2 => exact st
        case hm2 => dsimp only; omega
      · have en := ‹bsz x at_ = none›
        intro h7 e7 a7 tk7 hfl
        show wpAny _ _ (leaving _ _) _ _ _
        refine wpAny_leaves_onW (Around.frames_deeper B.stack) rfl hfl fun h' hfl' _ => ?_
        exact hE (hP.fail en) _ _ _ _ hfl'
    · obtain ⟨q0, q1, q2, ⟨q3, _⟩ | ⟨_, q4⟩⟩ := hP
      · cases q3
      k_steps
      refine wpS_of_any ?_
      k_steps
      · rename_i h9 e9 tk9 hm9
        refine fault_end (fun h => h) X B rfl rfl hm9 F ?_
        intro h' a0 hfl
        refine hE ?_ _ _ _ _ hfl
        unfold unsV; rw [q4]
        show (if _ then _ else _) = _
        rw [if_pos (.inl (by omega))]
      · rename_i F7 N7 e7 hne h9 e9 tk9 hm9
        refine fault_end (fun h => h) X B rfl rfl hm9 (by assumption) ?_
        intro h' a0 hfl
        refine hE ?_ _ _ _ _ hfl
        subst_vars
        unfold unsV; rw [q4]
        show (if _ then _ else _) = _
        rw [if_pos (.inr (by assumption))]
      · rename_i F7 N7 e7 heq
        refine call_bytes_ba (N7 _ (.head _)).1 (by rw [List.size_toArray, sizeLine_eq]; omega) fun t k => ?_
        refine ret _ _ _ _ (But.stays (hg _ (Fr.keep F7))) ?_
        subst_vars
        unfold unsV; rw [q4]
        show (if _ then _ else _) = _
        rw [if_neg]
        rintro (hc | hc)
        · omega
        · exact hc (by assumption)
end Mine
end
section
open PySem PySem.W PyProof.Rows
set_option Elab.async false
set_option linter.unusedVariables false
namespace Mine

set_option maxRecDepth 100000 in
set_option maxHeartbeats 8000000 in
theorem refused_spec {w : World} {A : Around} {G : Heap} {s : Shared} {x : List UInt8} {tx : Tok} {Q : Value → Shared → Prop} {E : Value → Shared → Prop}
    (S : Site w A G s.heap 12 100) (hx : x.length < 1000000) (h2 : 2 ≤ x.length) (hx0 : x.getD 0 0 = 120) (hx1 : x.getD 1 0 = 1) (hu : unsV x = none)
    (ret : ∀ h' tk, G.StaysIn h' → Q (.bool true) { s with heap := h', toks := tk }) :
    wpS (model PySem.Challenge.rw_nu0004_01.row.prog w) A (call (.ref 147) [.bytes x.toArray tx]) Q E s := by
  w_top off
  obtain ⟨hdl, dpt, frm, gds, unt⟩ := A; obtain rfl : hdl = none := S.hnd
  have hK0 := S.kin; have hK9 := Frag.In.keeps S.kin S.gst; revert hK0; k_fill; intro hK0
  refine wpS_call ?_
  refine' enterS (binds := [(Str.ofString "stream", Value.bytes x.toArray tx)]) S [] ?hh ?ho ?hcd ?hb ?hl ?_ ?c1 ?c2 ?c3 ?c4
  case hh => simp
  case ho => k_is
  case hcd => k_is
  case hb => first | exact hbnd _ _ _ _ (by k_is) | exact BindsTo.of_eq rfl | exact binds_K hK9 rfl (by k_is) rfl rfl rfl
  case hl => exact locs rfl
  case c1 => decide
  case c2 => exact rfl
  case c3 => exact rfl
  case c4 => exact rfl
  clear hK0 hK9
  intro g L' h₁ fr mean mg mb hg F N S' B X T l1
  dsimp only [List.length, List.map] at *
  
  refine letS ?_; intro ak qk ek
  clear S
  refine wpS_execs_cons ?_
  refine wpS_Try_except ?_
  refine wpS_execs_cons ?_
  refine wpS_Expr_bytes ?_ (by rfl) (by rfl)
  refine wpS_Call ?_ (by rfl)
  k_steps
  refine wpS_callWith_fn2 ?_
  refine evalArgs_one ?_ (by rfl)
  k_steps
  have F0 := ‹Fr g L' h₁ _›
  refine ⟨⟨_, _, (X.keeps F0.keep) 105 _ (by k_is), rfl⟩, ?_⟩
  dsimp only [List.nil_append]
  refine' uns_spec (Site.less (Site.next S' F0 rfl rfl) (by decide) (by decide)) (Around.frames_deeper B.stack) hx h2 hx0 hx1 ?r1 ?r2
  case r1 => intro h' tk t v _ e; rw [hu] at e; cases e
  case r2 =>
    intro _ h' e a0 tk hfl
    refine wpAny_looks_onW (Around.frames_deeper B.stack) rfl hfl fun h₄ hheld₄ _ => ?_
    refine wpAny_landsW hheld₄ fun h₅ hheld _ => ?_
    have X₅ := (S'.kin).keeps hheld.1
    obtain ⟨ob, hob, hobc⟩ := hheld.there
    have kp : Frag.In (hd.heap_39 w.params) h₅ := X₅
    obtain ⟨_, _, _, T'⟩ := S'.top
    refine wpAny_handleBy_cons (codeAny_handlers_test (PySem.Calls.Name_function_global rfl rfl (PySem.Calls.loadGlobal_global (T'.g.keeps hheld.1) (mg_of S'.kin T'.g (by k_is)) ?_))) (by intro q; cases q)
    refine wpAny_excMatches_sub_self (sf_cls kp) hob hobc (by decide) (codeAny_handlers_suite ?_)
    refine lands_againW hheld fun h₆ hfl₆ _ => ?_
    have key := fun tk9 => ret h₆ tk9 hfl₆.1
    k_steps
    exact key _
end Mine
end
section
open PySem PySem.W PyProof.Rows
set_option Elab.async false
set_option linter.unusedVariables false
namespace Mine

theorem adlF_bounds : ∀ (x : List Int) (p : Int × Int), 0 ≤ p.1 ∧ p.1 < 65536 ∧ 0 ≤ p.2 ∧ p.2 < 65536 → 0 ≤ (adlF x p).1 ∧ (adlF x p).1 < 65536 ∧ 0 ≤ (adlF x p).2 ∧ (adlF x p).2 < 65536
  | [], p, h => h
  | k :: x, p, h => adlF_bounds x (aStep p k) (by unfold aStep; dsimp only; omega)
theorem adlV_bounds (x : List Int) (n : Int) (h0 : 0 ≤ n := by decide) (h1 : n < 4294967296 := by decide) : 0 ≤ adlV x n ∧ adlV x n < 4294967296 := by
  have := adlF_bounds x (n % 65536, n / 65536) ⟨by dsimp only; omega, by dsimp only; omega, by dsimp only; omega, by dsimp only; omega⟩
  unfold adlV
  omega
section
variable {w : World} {A : Around} {G h₀ : Heap} {L : Addr} {m : Str → Option Value} {s : Shared} {news : List (Addr × Obj)} {x : List UInt8} {tx tn : Tok} {n : Int} {Q : Value → Shared → Prop} {E : Value → Shared → Prop}
theorem put32_use (S : Site w A G s.heap 5 40) (F : Fr h₀ L s.heap m) (N : News h₀ L s.heap news) (h0 : 0 ≤ n) (h1 : n < 4294967296)
    (ret : ∀ h' tk t, Fr h₀ L h' m → News h₀ L h' news → Q (.bytes (be32 n).toArray t) { s with heap := h', toks := tk }) : wpAny (model PySem.Challenge.rw_nu0004_01.row.prog w) A (call (.ref 53) [.int n tn]) Q E s :=
  put32_spec S h0 h1 fun h' tk t k => ret h' tk t (F.keeps k) (News.keeps N k)
theorem adl1_use (S : Site w A G s.heap 5 40) (F : Fr h₀ L s.heap m) (N : News h₀ L s.heap news)
    (ret : ∀ h' tk t v, Fr h₀ L h' m → News h₀ L h' news → v = adlV (bin x) 1 → 0 ≤ v → v < 4294967296 → Q (.int v t) { s with heap := h', toks := tk }) : wpAny (model PySem.Challenge.rw_nu0004_01.row.prog w) A (call (.ref 83) [.bytes x.toArray tx]) Q E s :=
  adler1_spec S fun h' tk t v k e => ret h' tk t v (F.keeps k) (News.keeps N k) e (e ▸ (adlV_bounds _ _).1) (e ▸ (adlV_bounds _ _).2)
end
theorem ba_app (b : List UInt8) (ns : List Int) : b.toArray ++ byteArr ns = (b ++ ns.map byteOf).toArray := by
  show b.toArray ++ (ns.map byteOf).toArray = _
  rw [List.append_toArray]
local macro_rules | `(tactic| walk_at "call type:bytes") => `(tactic| ((with_reducible show wpAny _ _ (call (Value.type "bytes") [Value.ref _]) _ _ _); k_dflt (refine' call_bytes_ba ?ha ?hz ?_; (case ha => exact News.get (by k_asm) (by k_mem)); (case hz => (rw [List.size_toArray, sizeLine_eq]; omega))); intro _ _))
local macro_rules | `(tactic| walk_at "call ref") => `(tactic| ((with_reducible show wpAny _ _ (call (Value.ref 53) _) _ _ _); k_dflt (refine' put32_use (by walk_at "S") (by k_asm) (by k_asm) ?h0 ?h1 ?_; (case h0 => first | assumption | omega); (case h1 => first | assumption | omega)); intro h9 tk9 t9 F9 N9; (try k_sweep)))
local macro_rules | `(tactic| walk_at "call ref") => `(tactic| ((with_reducible show wpAny _ _ (call (Value.ref 83) [Value.bytes _ _]) _ _ _); k_dflt (refine' adl1_use (by walk_at "S") (by k_asm) (by k_asm) ?_); intro h9 tk9 t9 v9 F9 N9 e9; (try k_sweep)))

set_option maxRecDepth 100000 in
set_option maxHeartbeats 8000000 in
theorem stored_core {w : World} {pos : List Value} {A : Around} {G : Heap} {s : Shared} {x : List UInt8} {tx tn : Tok} {n : Int} {Q : Value → Shared → Prop} {E : Value → Shared → Prop}
    (S : Site w A G s.heap 10 90) (hx : x.length < 100000) (h0 : 0 < n) (h1 : n ≤ 65535)
    (ret : ∀ h' tk t, s.heap.StaysIn h' → Q (.bytes (streamV x n.toNat (adlV (bin x) 1)).toArray t) { s with heap := h', toks := tk })
    (hbnd : ∀ oc od osl fd, (hd.heap_39 w.params).lookup 91 = some ⟨oc, od, .func fd, osl⟩ → BindsTo s fd ⟨pos, []⟩ [(Str.ofString "octets", Value.bytes x.toArray tx), (Str.ofString "most", Value.int n tn)]) :
    wpS (model PySem.Challenge.rw_nu0004_01.row.prog w) A (call (.ref 91) pos) Q E s := by
  w_top off
  obtain ⟨hdl, dpt, frm, gds, unt⟩ := A; obtain rfl : hdl = none := S.hnd
  have hK0 := S.kin; have hK9 := Frag.In.keeps S.kin S.gst; revert hK0; k_fill; intro hK0
  refine wpS_call ?_
  refine' enterS (binds := [(Str.ofString "octets", Value.bytes x.toArray tx), (Str.ofString "most", Value.int n tn)]) S [] ?hh ?ho ?hcd ?hb ?hl ?_ ?c1 ?c2 ?c3 ?c4
  case hh => simp
  case ho => k_is
  case hcd => k_is
  case hb => first | exact hbnd _ _ _ _ (by k_is) | exact BindsTo.of_eq rfl | exact binds_K hK9 rfl (by k_is) rfl rfl rfl
  case hl => exact locs rfl
  case c1 => decide
  case c2 => exact rfl
  case c3 => exact rfl
  case c4 => exact rfl
  clear hK0 hK9
  intro g L' h₁ fr mean mg mb hg F N S' B X T l1
  dsimp only [List.length, List.map] at *
  
  refine letS ?_; intro ak qk ek
  clear S
  refine wpS_execs_cons ?_
  refine wpS_Assign_Name ?_ (by rfl)
  refine wpS_Call ?_ (by rfl)
  k_steps
  refine wpS_callWith_ty rfl ?_
  refine evalArgs_one ?_ (by rfl)
  k_steps
  have N1 := ‹News g L' _ _›
  have F1 := ‹Fr g L' _ _›
  refine callS_ba1 (ns := [120, 1]) (N1 _ (.head _)).1 (by repeat constructor) (by decide) (by decide) ?_
  intro h' ha hk
  rename_i l8 h8 _ _ _
  have hn : h8.get? h8.objs.size = none := Heap.get?_none_of_le (Nat.le_refl _)
  dsimp only at ha hk ⊢
  have N2 := news_grow F1 N1 hk hn ha
  have F2 := F1.keeps hk
  clear hn ha hk N1 F1
  rename Fr g L' h8 _ => F0
  rename News g L' h8 _ => N0
  clear F0 N0
  generalize h8.objs.size = a at *
  replace N2 : News g L' h' [(a, baObj (byteArr [120, 1]))] := fun p hp => N2 p (by rcases List.mem_singleton.mp hp with rfl; exact .head _)
  k_steps
  refine wpS_execs_any ?_
  k_fold
  k_steps
  rename_i h9 F9 N9
  refine wpS_execs_cons ?_
  refine' ksS_while (σ := List UInt8 × Int × Tok × Nat) (fun c => [(a, baObj c.1.toArray)]) (fun c => [(Str.ofString "at", Value.int c.2.1 c.2.2.1)]) (fun _ => True)
    [Str.ofString "part", Str.ofString "at", Str.ofString "size"]
    (fun c => 0 ≤ c.2.1 ∧ c.2.1 ≤ (x.length : Int) ∧ (c.2.1 < (x.length : Int) ∨ c.2.1 = 0) ∧ c.1 ++ strm n.toNat c.2.2.2 (x.drop c.2.1.toNat) = bodyV x n.toNat ∧ (x.drop c.2.1.toNat).length < c.2.2.2) (fun c => ((x.length : Int) + 1 - c.2.1).toNat) ([byteOf 120, byteOf 1], 0, _, x.length + 1) F9 ?hN trivial ?hk ?hp ?turn ?hE
  case hN => exact N9
  case hk => intro p hp; simp only [List.mem_cons, List.mem_nil_iff, or_false] at hp; rcases hp with rfl; rfl
  case hp => exact ⟨by dsimp only; omega, by dsimp only; omega, .inr rfl, rfl, by simp⟩
  case hE => passes_own
  case turn =>
    rintro ⟨b, at_, ta, fu⟩ u h tk _ ⟨q0, q1, q2, q3, q4⟩ F N
    dsimp only at *
    clear F9 N9
    have hbl := bodyV_len x n.toNat (by omega)
    have hfl : b.length ≤ 600007 := by
      have := congrArg List.length q3
      rw [List.length_append] at this
      omega
    k_steps
    refine wpS_execs_any ?_
    k_fold
    k_steps
    refine wpS_execs_any ?_
    k_fold
    k_steps
    refine wpS_execs_any ?_
    k_fold
    k_steps
    refine wpS_execs_cons ?_
    refine wpS_Expr_none ?_ (by rfl) (by rfl)
    refine wpS_MethodCall ?_ (by rfl)
    k_steps
    have N7 := ‹News g L' _ [(a, baObj b.toArray)]›
    refine ba_ext_method (N7 _ (.head _)).1 ?_
    refine wpS_callWith_bi rfl ?_
    clear N7
    refine evalArgs_one ?_ (by rfl)
    k_steps
    all_goals
      rename News g L' _ ((_, _) :: (a, baObj b.toArray) :: []) => N8
      rename Fr g L' _ _ => F8
      refine ext_list rfl (N8 _ (.tail _ (.head _))).1 (N8 _ (.head _)).1 (ns := [_, _, _, _, _]) (by repeat constructor) ?_ ?_ fun h8 k8 hb8 kb => ⟨rfl, ?_⟩
      · intro v hv
        simp only [List.mem_cons, List.mem_nil_iff, or_false] at hv
        rcases hv with rfl | rfl | rfl | rfl | rfl <;> omega
      · rw [List.size_toArray, sizeLine_eq]; simp only [List.length_cons, List.length_nil]; omega
      have N8' : News g L' _ [(a, baObj b.toArray)] := fun p hp => N8 p (.tail _ hp)
      have F9 := Fr.but F8 kb (N8' _ (.head _)).2.1 (N8' _ (.head _)).2.2
      have N9 := News.but N8' kb hb8 (fun p hp => by cases hp)
      rw [ba_app] at N9
      clear F8 N8 N8' kb hb8
      dsimp only at F9 N9 ⊢
      refine wpS_execs_cons ?_
      refine wpS_Expr_none ?_ (by rfl) (by rfl)
      refine wpS_MethodCall ?_ (by rfl)
      k_steps
      refine ba_ext_method (N9 _ (.head _)).1 ?_
      refine wpS_callWith_bi rfl ?_
      refine evalArgs_one ?_ (by rfl)
      k_steps
      have hl8 : ∀ k : Nat, (List.take k (x.drop at_.toNat)).length ≤ x.length := fun k => by
        rw [List.length_take, List.length_drop]; omega
      refine ext_bytes (N9 _ (.head _)).1 ?_ fun h7 hb7 hs7 => ⟨rfl, ?_⟩
      · rw [Array.size_append, List.size_toArray, List.size_toArray, sizeLine_eq, List.length_append, List.length_map]
        exact Nat.le_trans (Nat.add_le_add_left (hl8 _) _) (by simp only [List.length_cons, List.length_nil]; omega)
      have kb : But [a] _ h7 := fun c o e hc => (hs7.2 c (fun q => hc (List.mem_singleton.mpr q))).trans e
      have F7 := Fr.but F9 kb (N9 _ (.head _)).2.1 (N9 _ (.head _)).2.2
      have N7 := News.but N9 kb hb7 (fun p hp => by cases hp)
      rw [List.append_toArray] at N7
      clear F9 N9 kb hs7 hb7
      have hl7 := hl8 n.toNat
      dsimp only at F7 N7 ⊢
      clear hl8 hfl
      subst_vars
      have hst := stored_step h0 h1 q0 q1 q2 q3 q4 rfl
      refine wpS_of_any ?_
    · rw [hst.1 (by assumption)] at N7
      clear hst q3
      k_steps
      · rename_i t8 h7' tk7' t7' v7' e7' v70 v71 h6' tk6' t6' F6 N6
        refine KBy.add_bytes (by rw [List.size_toArray, List.size_toArray]; show _ + 4 ≤ _; omega) fun t5 k5 => ?_
        rw [List.append_toArray]
        subst e7'
        exact ret _ _ _ (But.stays (hg _ (Fr.keep F6)))
      all_goals try (exfalso; omega; done)
    · obtain ⟨z1, z2, z3, z4⟩ := hst.2 (by assumption)
      clear hst q3
      k_steps
      all_goals try (exfalso; omega; done)
      · refine' ksw_end (_, _, _, fu - 1) F7 N7 ?hn2 trivial ?hk2 ?hr2 ?hp2 ?hm2
        case hk2 => intro p hp; rcases List.mem_singleton.mp hp with rfl; rfl
        case hn2 => intro p hp; rcases List.mem_singleton.mp hp with rfl; exact .head _
        case hr2 => (intro z hz2 hz3; simp only [List.contains_cons, List.contains_nil, Bool.or_false, Bool.or_eq_false_iff, beq_eq_false_iff_ne, ne_eq] at hz3; simp [kstB, hz3])
        case hp2 => exact ⟨by dsimp only; omega, by dsimp only; omega, .inl z3, z1, z2⟩
        case hm2 => dsimp only; omega
end Mine
end
section
open PySem PySem.W PyProof.Rows
set_option Elab.async false
set_option linter.unusedVariables false
namespace Mine
theorem stored2_spec {w : World} {A : Around} {G : Heap} {s : Shared} {x : List UInt8} {tx tn : Tok} {n : Int} {Q : Value → Shared → Prop} {E : Value → Shared → Prop}
    (S : Site w A G s.heap 10 90) (hx : x.length < 100000) (h0 : 0 < n) (h1 : n ≤ 65535)
    (ret : ∀ h' tk t, s.heap.StaysIn h' → Q (.bytes (streamV x n.toNat (adlV (bin x) 1)).toArray t) { s with heap := h', toks := tk }) :
    wpS (model PySem.Challenge.rw_nu0004_01.row.prog w) A (call (.ref 91) [.bytes x.toArray tx, .int n tn]) Q E s := by
  refine stored_core (tx := tx) (tn := tn) S hx h0 h1 ret fun oc od osl fd e => ?_
  have X := S.kin.keeps S.gst
  have hr9 : (model PySem.Challenge.rw_nu0004_01.row.prog w) = (model PySem.Challenge.rw_nu0004_01.row.prog w) := rfl
  have hK0 := X; revert hr9 hK0 e; k_fill; intro e hr9 hK0
  with_unfolding_all (have e2 : (some _ : Option Obj) = some _ := e)
  cases e2
  first | exact BindsTo.of_eq rfl | exact binds_K hK0 rfl (by k_is) rfl rfl rfl
theorem stored1_spec {w : World} {A : Around} {G : Heap} {s : Shared} {x : List UInt8} {tx : Tok} {Q : Value → Shared → Prop} {E : Value → Shared → Prop}
    (S : Site w A G s.heap 10 90) (hx : x.length < 100000)
    (ret : ∀ h' tk t, s.heap.StaysIn h' → Q (.bytes (streamV x 65535 (adlV (bin x) 1)).toArray t) { s with heap := h', toks := tk }) :
    wpS (model PySem.Challenge.rw_nu0004_01.row.prog w) A (call (.ref 91) [.bytes x.toArray tx]) Q E s := by
  refine stored_core (n := 65535) (tx := tx) (tn := 286) S hx (by decide) (by decide) ret fun oc od osl fd e => ?_
  have X := S.kin.keeps S.gst
  have hr9 : (model PySem.Challenge.rw_nu0004_01.row.prog w) = (model PySem.Challenge.rw_nu0004_01.row.prog w) := rfl
  have hK0 := X; revert hr9 hK0 e; k_fill; intro e hr9 hK0
  with_unfolding_all (have e2 : (some _ : Option Obj) = some _ := e)
  cases e2
  exact binds_K hK0 rfl (by k_is) rfl rfl rfl
end Mine
end
section
open PySem PySem.W PyProof.Rows Mine
local macro_rules | `(tactic| walk_at "eval BinOp") => `(tactic| (k_fold; walk_at "eval BinOp"))
local macro_rules | `(tactic| walk_at "eval Call") => `(tactic| (k_fold; walk_at "eval Call"))
local macro_rules | `(tactic| walk_at "none") => `(tactic| skip)
section
open PySem PySem.W PyProof.Rows
set_option Elab.async false
set_option linter.unusedVariables false
namespace Mine


theorem len_listL {prog : Program} {w : World} {A : Around} {E : Value → Shared → Prop} {s : Shared} {l : Addr} {vs : List Value} {ks : List Int} {Q : Value → Shared → Prop} (hl : s.heap.IsList l vs.toArray) (hv : IntsAre vs ks) (hfit : vs.length ≤ 1000000)
    (h : Q (.int ((ks.length : Nat) : Int) (s.toks + 1)) { s with toks := s.toks + 1 + 1 }) : wpAny (model prog w) A (call (.builtin "len") [.ref l]) Q E s := by
  refine len_list hl (by rw [List.size_toArray]; omega) ?_
  rw [List.size_toArray, IntsAre.length hv]; exact h
local macro_rules | `(tactic| walk_at "call builtin:len") => `(tactic| ((with_reducible show wpAny _ _ (call (Value.builtin "len") [Value.ref _]) _ _ _); k_dflt (refine' len_listL ?hl ?hv ?hf ?_; (case hl => is_list); (case hv => assumption); (case hf => omega))))
theorem fresh_at {s : Shared} {g h' : Heap} {L l : Addr} {o : Obj} {rest : List (Addr × Obj)} (hg : ∀ h', g.StaysIn h' → But [] s.heap h') (N : News g L h' ((l, o) :: rest)) : s.heap.get? l = none := by
  cases q : s.heap.get? l with
  | none => rfl
  | some o =>
    have := hg g (fun _ _ e => e) _ _ q (by simp)
    rw [News.fresh N (.head _)] at this; cases this
set_option maxRecDepth 100000 in
set_option maxHeartbeats 8000000 in
theorem pool_spec {w : World} {A : Around} {G : Heap} {s : Shared} {p : Addr} {vs : List Value} {ks : List Int} {Q : Value → Shared → Prop} {E : Value → Shared → Prop}
    (S : Site w A G s.heap 5 40) (hp : s.heap.IsList p vs.toArray) (hv : IntsAre vs ks) (hlen : vs.length ≤ 63)
    (ret : ∀ h' tk l a b ta tb n, s.heap.StaysIn h' → s.heap.get? l = none → h'.get? l = some (listOf #[.int a ta, .int b tb] n) → 0 ≤ a → 0 ≤ b → b < 2147483647 → Q (.ref l) { s with heap := h', toks := tk }) :
    wpAny (model PySem.Challenge.rw_nu0004_01.row.prog w) A (call (.ref 112) [.ref p]) Q E s := by
  w_top off
  obtain ⟨hdl, dpt, frm, gds, unt⟩ := A; obtain rfl : hdl = none := S.hnd
  have hK0 := S.kin; have hK9 := Frag.In.keeps S.kin S.gst; revert hK0; k_fill; intro hK0
  refine wpAny_call ?_
  refine' enter (binds := [(Str.ofString "script", Value.ref p)]) S [] ?hh ?ho ?hcd ?hb ?hl ?_ ?c1 ?c2 ?c3 ?c4
  case hh => simp
  case ho => k_is
  case hcd => k_is
  case hb => first | exact hbnd _ _ _ _ (by k_is) | exact BindsTo.of_eq rfl | exact binds_K hK9 rfl (by k_is) rfl rfl rfl
  case hl => exact locs rfl
  case c1 => decide
  case c2 => exact rfl
  case c3 => exact rfl
  case c4 => exact rfl
  clear hK0 hK9
  intro g L' h₁ fr mean mg mb hg F N S' B X T l1
  dsimp only [List.length, List.map] at *
  try k_fold
  refine letA ?_; intro ak
  have hpg : g.IsList p vs.toArray := by
    obtain ⟨o, h1, h2⟩ := hp
    exact ⟨o, hg g (fun _ _ e => e) _ _ h1 (by simp), h2⟩
  clear S
  k_steps
  all_goals (refine ret _ _ _ _ _ _ _ _ (But.stays (hg _ (Fr.keep (by assumption)))) (fresh_at hg (by assumption)) (News.get (by assumption) (.head _)) ?_ ?_ ?_)
  · refine Int.mul_nonneg ?_ ?_
    · split <;> omega
    · split <;> omega
  · omega
  · omega
  · refine Int.mul_nonneg ?_ ?_
    · split <;> omega
    · split <;> omega
  · omega
  · omega
set_option maxRecDepth 100000 in
set_option maxHeartbeats 8000000 in
theorem take_spec {w : World} {A : Around} {G : Heap} {s : Shared} {src : Addr} {n : Nat} {a b top : Int} {ta tb tt : Tok} {Q : Value → Shared → Prop} {E : Value → Shared → Prop}
    (S : Site w A G s.heap 5 40) (hs : s.heap.get? src = some (listOf #[.int a ta, .int b tb] n)) (hG : G.get? src = none)
    (ha : 0 ≤ a) (hb0 : 0 ≤ b) (hb : b < 2147483647) (h0 : 0 < top) (ht : top < 1000000)
    (ret : ∀ h' tk t ta' tb' r a' b', But [src] s.heap h' → h'.get? src = some (listOf #[.int a' ta', .int b' tb'] n) → 0 ≤ a' → 0 ≤ b' → b' < 2147483647 → 0 ≤ r → r < top → Q (.int r t) { s with heap := h', toks := tk }) :
    wpAny (model PySem.Challenge.rw_nu0004_01.row.prog w) A (call (.ref 119) [.ref src, .int top tt]) Q E s := by
  obtain ⟨hdl, dpt, frm, gds, unt⟩ := A; obtain rfl : hdl = none := S.hnd
  have hK0 := S.kin; have hK9 := Frag.In.keeps S.kin S.gst; revert hK0; k_fill; intro hK0
  refine wpAny_call ?_
  refine' enter (binds := [(Str.ofString "source", Value.ref src), (Str.ofString "top", Value.int top tt)]) S [(src, listOf #[.int a ta, .int b tb] n)] ?hh ?ho ?hcd ?hb ?hl ?_ ?c1 ?c2 ?c3 ?c4
  case hh => intro p hp; rcases List.mem_singleton.mp hp with rfl; exact ⟨hs, hG, fun _ _ q => by cases q⟩
  case ho => k_is
  case hcd => k_is
  case hb => first | exact hbnd _ _ _ _ (by k_is) | exact BindsTo.of_eq rfl | exact binds_K hK9 rfl (by k_is) rfl rfl rfl
  case hl => exact locs rfl
  case c1 => decide
  case c2 => exact rfl
  case c3 => exact rfl
  case c4 => exact rfl
  clear hK0 hK9
  intro g L' h₁ fr mean mg mb hg F N S' B X T l1
  dsimp only [List.length, List.map] at *
  try k_fold
  refine letA ?_; intro ak
  have l2 := l1 _ (List.mem_singleton.mpr rfl)
  clear l1 S
  dsimp only at l2
  k_steps
  · refine ret _ _ _ _ _ _ _ _ (hg _ (Fr.keep (by assumption))) (News.get (by assumption) (.head _)) ?_ ?_ ?_ ?_ ?_
    · exact Int.ediv_nonneg ha (by omega)
    · exact hb0
    · exact hb
    · exact Int.emod_nonneg _ (by omega)
    · exact Int.emod_lt_of_pos _ h0
  · refine ret _ _ _ _ _ _ _ _ (hg _ (Fr.keep (by assumption))) (News.get (by assumption) (.head _)) ?_ ?_ ?_ ?_ ?_
    · exact ha
    · omega
    · omega
    · exact Int.emod_nonneg _ (by omega)
    · exact Int.emod_lt_of_pos _ h0
theorem take_use {w : World} {A : Around} {G h₀ : Heap} {L : Addr} {m : Str → Option Value} {s : Shared} {src : Addr} {n : Nat} {a b top : Int} {ta tb tt : Tok} {news : List (Addr × Obj)} {Q : Value → Shared → Prop} {E : Value → Shared → Prop}
    (hG : G.get? src = none) (ha : 0 ≤ a) (hb0 : 0 ≤ b) (hb : b < 2147483647) (S : Site w A G s.heap 5 40) (F : Fr h₀ L s.heap m) (N : News h₀ L s.heap ((src, listOf #[.int a ta, .int b tb] n) :: news)) (hoff : ∀ p ∈ news, p.1 ≠ src)
    (h0 : 0 < top) (ht : top < 1000000)
    (ret : ∀ h' tk t ta' tb' r a' b', Fr h₀ L h' m → News h₀ L h' ((src, listOf #[.int a' ta', .int b' tb'] n) :: news) → 0 ≤ a' → 0 ≤ b' → b' < 2147483647 → 0 ≤ r → r < top → Q (.int r t) { s with heap := h', toks := tk }) :
    wpAny (model PySem.Challenge.rw_nu0004_01.row.prog w) A (call (.ref 119) [.ref src, .int top tt]) Q E s := by
  have hs := N (src, _) (.head _)
  refine take_spec S hs.1 hG ha hb0 hb h0 ht fun h' tk t ta' tb' r a' b' k1 k2 k3 k4 k5 k6 k7 => ret h' tk t ta' tb' r a' b' ?_ ?_ k3 k4 k5 k6 k7
  · exact Fr.but F k1 hs.2.1 hs.2.2
  · exact News.but N k1 k2 hoff
set_option maxRecDepth 100000 in
set_option maxHeartbeats 8000000 in
theorem one_spec {w : World} {A : Around} {G : Heap} {s : Shared} {src l : Addr} {n : Nat} {a b : Int} {ta tb tt : Tok} {vs : List Value} {ks : List Int} {Q : Value → Shared → Prop} {E : Value → Shared → Prop}
    (S : Site w A G s.heap 6 60) (hs : s.heap.get? src = some (listOf #[.int a ta, .int b tb] n)) (hG : G.get? src = none)
    (hl : s.heap.IsList l vs.toArray) (hls : l ≠ src) (hv : IntsAre vs ks) (hk : 0 < ks.length) (hk2 : ks.length < 1000)
    (ha : 0 ≤ a) (hb0 : 0 ≤ b) (hb : b < 2147483647)
    (ret : ∀ h' tk t ta' tb' r a' b', But [src] s.heap h' → h'.get? src = some (listOf #[.int a' ta', .int b' tb'] n) → 0 ≤ a' → 0 ≤ b' → b' < 2147483647 → r ∈ ks → Q (.int r t) { s with heap := h', toks := tk }) :
    wpAny (model PySem.Challenge.rw_nu0004_01.row.prog w) A (call (.ref 126) [.ref src, .ref l]) Q E s := by
  obtain ⟨hdl, dpt, frm, gds, unt⟩ := A; obtain rfl : hdl = none := S.hnd
  have hK0 := S.kin; have hK9 := Frag.In.keeps S.kin S.gst; revert hK0; k_fill; intro hK0
  refine wpAny_call ?_
  refine' enter (binds := [(Str.ofString "source", Value.ref src), (Str.ofString "things", Value.ref l)]) S [(src, listOf #[.int a ta, .int b tb] n)] ?hh ?ho ?hcd ?hb ?hl ?_ ?c1 ?c2 ?c3 ?c4
  case hh => intro p hp; rcases List.mem_singleton.mp hp with rfl; exact ⟨hs, hG, fun _ _ q => by cases q⟩
  case ho => k_is
  case hcd => k_is
  case hb => first | exact hbnd _ _ _ _ (by k_is) | exact BindsTo.of_eq rfl | exact binds_K hK9 rfl (by k_is) rfl rfl rfl
  case hl => exact locs rfl
  case c1 => decide
  case c2 => exact rfl
  case c3 => exact rfl
  case c4 => exact rfl
  clear hK0 hK9
  intro g L' h₁ fr mean mg mb hg F N S' B X T l1
  dsimp only [List.length, List.map] at *
  try k_fold
  refine letA ?_; intro ak
  have l2 := l1 _ (List.mem_singleton.mpr rfl)
  have hlg : g.IsList l vs.toArray := by
    obtain ⟨o, h1, h2⟩ := hl
    exact ⟨o, hg g (fun _ _ e => e) _ _ h1 (by simpa using hls), h2⟩
  have hvl := IntsAre.length hv
  clear l1 S
  dsimp only at l2
  k_steps
  refine' take_use hG ha hb0 hb ?S ?F ?N ?off ?h0 ?ht ?_
  case S => exact Site.less (Site.next (by assumption) (by assumption) rfl rfl) (by decide) (by decide)
  case F => assumption
  case N => assumption
  case off => intro p hp; cases hp
  case h0 => omega
  case ht => omega
  intro h9 tk9 t9 ta9 tb9 r9 a9 b9 F9 N9 e1 e2 e3 e4 e5
  clear F N
  k_steps
  have hx : ks.getD r9.toNat 0 ∈ ks := by
    have hl : r9.toNat < ks.length := by omega
    rw [List.getD_eq_getElem?_getD, List.getElem?_eq_getElem hl]
    exact List.getElem_mem hl
  refine ret _ _ _ _ _ _ _ _ (hg _ (Fr.keep (by assumption))) (News.get (by assumption) (.head _)) ?_ ?_ ?_ hx
  · assumption
  · assumption
  · assumption
end Mine
end
section
open PySem PySem.W PyProof.Rows
set_option Elab.async false
set_option linter.unusedVariables false
namespace Mine

theorem sum_use {w : World} {A : Around} {G h₀ : Heap} {L : Addr} {m : Str → Option Value} {s : Shared} {news : List (Addr × Obj)} {x : List UInt8} {tx : Tok} {Q : Value → Shared → Prop} {E : Value → Shared → Prop}
    (S : Site w A G s.heap 5 40) (F : Fr h₀ L s.heap m) (N : News h₀ L s.heap news)
    (ret : ∀ h' tk t v, Fr h₀ L h' m → News h₀ L h' news → v = sumV (bin x) → Q (.int v t) { s with heap := h', toks := tk }) :
    wpAny (model PySem.Challenge.rw_nu0004_01.row.prog w) A (call (.ref 140) [.bytes x.toArray tx]) Q E s :=
  sum_spec S fun h' tk t v k e => ret h' tk t v (F.keeps k) (News.keeps N k) e
local macro_rules | `(tactic| walk_at "call ref") => `(tactic| ((with_reducible show wpAny _ _ (call (Value.ref 140) _) _ _ _); k_dflt (refine' sum_use (by walk_at "S") (by k_asm) (by k_asm) ?_); intro h9 tk9 t9 v9 F9 N9 e9; (try k_sweep)))

local macro_rules | `(tactic| walk_at "binaryOp Add ref ref") => `(tactic| ((with_reducible show wpAny _ _ (binaryOp _ (Value.ref _) (Value.ref _)) _ _ _); k_dflt (refine' kmk_add_ints ?F ?N ?a ?b ?i ?j ?_ ?z; (case F => k_asm); (case N => k_asm); (case a => is_list); (case b => is_list); (case i => first | assumption | l_ints); (case j => first | assumption | l_ints); (case z => (simp only [bin_len, List.length_append, List.length_take, List.length_drop, List.length_cons, List.length_nil, List.length_map, sizeLine_eq]; omega))); intro D' ws' h' F' N' l1 hI'; (try k_lt l1); (try k_sweep)))
local macro_rules | `(tactic| walk_at "KswEnd") => `(tactic| refine Hold.out ?_)
local macro_rules | `(tactic| walk_at "KswPost") => `(tactic| refine Hold.out ?_)
set_option maxRecDepth 100000 in
set_option maxHeartbeats 8000000 in
theorem stream_spec {w : World} {A : Around} {G : Heap} {s : Shared} {x : List UInt8} {tx : Tok} {n : Int} {tn : Tok} {Q : Value → Shared → Prop} {E : Value → Shared → Prop}
    (S : Site w A G s.heap 6 60) (hx : x.length < 1000) (h0 : 0 < n) (h1 : n ≤ 65535)
    (ret : ∀ h' tk t, s.heap.StaysIn h' → Q (.bytes (streamV x n.toNat (sumV (bin x))).toArray t) { s with heap := h', toks := tk }) :
    wpAny (model PySem.Challenge.rw_nu0004_01.row.prog w) A (call (.ref 152) [.bytes x.toArray tx, .int n tn]) Q E s := by
  w_top off
  obtain ⟨hdl, dpt, frm, gds, unt⟩ := A; obtain rfl : hdl = none := S.hnd
  have hK0 := S.kin; have hK9 := Frag.In.keeps S.kin S.gst; revert hK0; k_fill; intro hK0
  refine wpAny_call ?_
  refine' enterC (binds := [(Str.ofString "octets", Value.bytes x.toArray tx), (Str.ofString "most", Value.int n tn)]) S [] ?hh ?ho ?hcd ?hb ?hl ?hn ?_ ?c2 ?c3 ?c4
  case hh => simp
  case ho => k_is
  case hcd => k_is
  case hb => first | exact hbnd _ _ _ _ (by k_is) | exact BindsTo.of_eq rfl | exact binds_K hK9 rfl (by k_is) rfl rfl rfl
  case hl => exact rfl
  case hn => decide +kernel
  case c2 => exact rfl
  case c3 => exact rfl
  case c4 => exact rfl
  clear hK0 hK9
  intro g L' h₁ tk₁ cells fr mean mg mb hg F N Y S' B X T l1
  dsimp only [List.length, List.map] at l1 hg
  k_cells Y
  simp only [List.cons_append, List.nil_append] at N
  try dsimp only
  try k_fold
  clear S
  replace F : Fr g L' h₁ (fun y => if y = Str.ofString "most" then some (Value.int n tn) else none) := F
  rename_i d1
  replace d1 : _ = Data.cell (some (Value.bytes x.toArray tx)) := d1
  k_steps
  refine Hold.back ?_
  rename_i o9 l9 h8 hl9 D9 h7 hl8 h6 h5 h4 F9 N9
  refine' ksw_while (σ := Addr × List Value × Nat × Int × Tok × Nat) (fun c => [(c.1, listOf c.2.1.toArray c.2.2.1), (L' + 1, o9)]) (fun c => [(Str.ofString "found", Value.ref c.1), (Str.ofString "at", Value.int c.2.2.2.1 c.2.2.2.2.1)]) (fun _ => True)
    [Str.ofString "found", Str.ofString "at", Str.ofString "part", Str.ofString "low", Str.ofString "high"]
    (fun c => StreamP x n.toNat c.2.1 c.2.2.2.1 c.2.2.2.2.2) (fun c => ((x.length : Int) + 1 - c.2.2.2.1).toNat) (l9, [Value.int 120 tk₁, Value.int 1 (tk₁ + 1)], 0, 0, tk₁ + 1 + 1, x.length + 1) F9 ?hN trivial ?hk ?hp ?turn
  case hN => exact fun p hp => N9 p (List.mem_cons_of_mem _ hp)
  case hk => intro p hp; simp only [List.mem_cons, List.mem_nil_iff, or_false] at hp; rcases hp with rfl | rfl <;> rfl
  case hp => exact StreamP.start _ _ _ _
  case turn =>
    rintro ⟨l, vs, sz, at_, ta, fu⟩ u h tk _ hP F N
    dsimp only at *
    clear F9 N9
    have hz : (x.toArray.size : Int) = (x.length : Int) := by simp
    have hbl := bodyV_len x n.toNat (by omega)
    rcases hP with ⟨ha0, ha1, ha2, fnd, hI, hT, hfu⟩ | ⟨hd0, hd1, hd2⟩
    · have hfl : fnd.length ≤ 7000 := by
        have := congrArg List.length hT
        rw [List.length_append] at this
        omega
      k_steps
      all_goals (try (exfalso; omega))
      all_goals
        refine Hold.back ?_
        rename_i D7 w7 h7' I7 l7 h6' F7 N7
        subst_vars
        have st := StreamP.step h0 h1 ha0 ha1 ha2 hT hfu rfl rfl rfl I7
        refine' ksw_end (D7, w7, 0, _, _, fu - 1) F7 N7 ?hn trivial ?hk ?hr st.1 st.2
        case hk => intro p hp; simp only [List.mem_cons, List.mem_nil_iff, or_false] at hp; rcases hp with rfl | rfl <;> rfl
        case hn =>
          intro p hp
          simp only [List.mem_cons, List.mem_nil_iff, or_false] at hp
          rcases hp with rfl | rfl
          · exact List.mem_cons_self ..
          · repeat (first | exact List.mem_cons_self .. | refine List.mem_cons_of_mem _ ?_)
        case hr => (intro z hz2 hz3; simp only [List.contains_cons, List.contains_nil, Bool.or_false, Bool.or_eq_false_iff, beq_eq_false_iff_ne, ne_eq] at hz3; simp [kstB, hz3])
    · k_steps
      all_goals (try (exfalso; omega))
      refine Hold.back ?_
      refine LCg.CompSrc.ledger rfl (by assumption) (by assumption) (.head _) (by size_fits) ?_
      intro g9
      refine' kcf_list (vs := [_, _, _, _]) (ns := [3, 2, 1, 0]) (fun k => sumV (bin x) / 256 ^ k.toNat % 256) (by repeat constructor) (fun k' t' I' oI' C' oC' D' m' ys' h' tk' E' hk' hC' hx' F' N' off' ne' hMark' => ?_) ?_
      · simp only [LCg.Off3, and_true] at off'
        simp only [List.mem_cons, List.mem_nil_iff, or_false] at hk'
        have hk9 : 0 ≤ k' ∧ k' < 4 := by omega
        k_steps
        refine kcf_el ?_ rfl rfl
        subst_vars
        rfl
      · k_steps
        rename_i lz D8 h8' tk8 o8 D7 w7 h7' F7 N7 I7 l7
        have hin : ∀ k ∈ bin (bodyV x n.toNat) ++ [3, 2, 1, 0].map (fun k : Int => sumV (bin x) / 256 ^ k.toNat % 256), 0 ≤ k ∧ k < 256 := by
          intro k hk
          rcases List.mem_append.mp hk with hk | hk
          · exact bin_in hk
          · obtain ⟨j, _, rfl⟩ := List.mem_map.mp hk
            omega
        refine call_bytes_ints (News.isList N7 (.head _)) I7 hin ?_ rfl fun h6' t6 tk6 hk6 => ?_
        · rw [I7.length, List.length_append, bin_len, sizeLine_eq]; simp only [List.length_map, List.length_cons, List.length_nil]; omega
        · rw [byteArr_bin, be32_map]
          exact ret _ _ _ (But.stays (hg _ (fun b o e => hk6 b o (F7.keep b o e))))
end Mine
end
section
open PySem PySem.W PyProof.Rows
set_option Elab.async false
set_option linter.unusedVariables false
namespace Mine
theorem crcV_bounds (x : List UInt8) : 0 ≤ crcV (bin x) 0 ∧ crcV (bin x) 0 < 4294967296 := by
  have h := crcF_bounds (bin x) (Builtin.bitXor 0 4294967295) (fun k hk => bin_in hk) (by decide) (by decide)
  exact xor_bounds (k := 32) (m := 4294967296) (by decide) h.1 h.2 (by decide) (by decide)
theorem bin_app (x y : List UInt8) : bin (x ++ y) = bin x ++ bin y := by unfold bin; rw [List.map_append]
theorem adl_parts (x : List UInt8) (k : Nat) : adlV (bin (x.drop k)) (adlV (bin (x.take k)) 1) = sumV (bin x) := by
  rw [adlV_split, ← bin_app, List.take_append_drop]
theorem crc_whole (x : List UInt8) : crcV (bin x) 0 = checkV (bin x) := crcV_checkV _ fun k hk => bin_in hk
theorem crc_parts (x : List UInt8) (k : Nat) : crcV (bin (x.drop k)) (crcV (bin (x.take k)) 0) = checkV (bin x) := by
  rw [crcV_split _ _ (fun k hk => bin_in hk) (fun k hk => bin_in hk), ← bin_app, List.take_append_drop]
section
variable {w : World} {A : Around} {G h₀ : Heap} {L : Addr} {m : Str → Option Value} {s : Shared} {news : List (Addr × Obj)} {x : List UInt8} {tx tn : Tok} {n : Int} {Q : Value → Shared → Prop} {E : Value → Shared → Prop}
theorem adl2_use (S : Site w A G s.heap 5 40) (F : Fr h₀ L s.heap m) (N : News h₀ L s.heap news) (h0 : 0 ≤ n) (h1 : n < 4294967296)
    (ret : ∀ h' tk t v, Fr h₀ L h' m → News h₀ L h' news → v = adlV (bin x) n → Q (.int v t) { s with heap := h', toks := tk }) : wpAny (model PySem.Challenge.rw_nu0004_01.row.prog w) A (call (.ref 83) [.bytes x.toArray tx, .int n tn]) Q E s :=
  adler2_spec S h0 h1 fun h' tk t v k e => ret h' tk t v (F.keeps k) (News.keeps N k) e
theorem crc1_use (S : Site w A G s.heap 6 60) (F : Fr h₀ L s.heap m) (N : News h₀ L s.heap news)
    (ret : ∀ h' tk t v, Fr h₀ L h' m → News h₀ L h' news → v = crcV (bin x) 0 → 0 ≤ v → v < 4294967296 → Q (.int v t) { s with heap := h', toks := tk }) : wpAny (model PySem.Challenge.rw_nu0004_01.row.prog w) A (call (.ref 75) [.bytes x.toArray tx]) Q E s :=
  crc1_spec S fun h' tk t v k e => ret h' tk t v (F.keeps k) (News.keeps N k) e (e ▸ (crcV_bounds _).1) (e ▸ (crcV_bounds _).2)
theorem crc2_use (S : Site w A G s.heap 6 60) (F : Fr h₀ L s.heap m) (N : News h₀ L s.heap news) (h0 : 0 ≤ n) (h1 : n < 4294967296)
    (ret : ∀ h' tk t v, Fr h₀ L h' m → News h₀ L h' news → v = crcV (bin x) n → Q (.int v t) { s with heap := h', toks := tk }) : wpAny (model PySem.Challenge.rw_nu0004_01.row.prog w) A (call (.ref 75) [.bytes x.toArray tx, .int n tn]) Q E s :=
  crc2_spec S h0 h1 fun h' tk t v k e => ret h' tk t v (F.keeps k) (News.keeps N k) e
theorem chk_use (S : Site w A G s.heap 5 40) (F : Fr h₀ L s.heap m) (N : News h₀ L s.heap news)
    (ret : ∀ h' tk t v, Fr h₀ L h' m → News h₀ L h' news → v = checkV (bin x) → Q (.int v t) { s with heap := h', toks := tk }) : wpAny (model PySem.Challenge.rw_nu0004_01.row.prog w) A (call (.ref 133) [.bytes x.toArray tx]) Q E s :=
  check_spec S fun h' tk t v k e => ret h' tk t v (F.keeps k) (News.keeps N k) e
end
/-! an octet turned in one place -/
theorem flip_ne {a p : Nat} (hp : p ≠ 0) : a ^^^ p ≠ a := by
  intro h
  apply hp
  have := congrArg (fun q => a ^^^ q) h
  simpa [← Nat.xor_assoc] using this
theorem flip_octet {x : List UInt8} {i k : Nat} {p r : Int} (hi : i < x.length) (hk : k < 8) (hp : p = (2 : Int) ^ k) (hr : r = Builtin.bitXor (((x.getD i 0).toNat : Nat) : Int) p) : 0 ≤ r ∧ r < 256 ∧ byteOf r ≠ x.getD i 0 := by
  have hp' : p = ((2 ^ k : Nat) : Int) := by rw [hp]; simp
  have hlt : (x.getD i 0).toNat < 256 := (x.getD i 0).toNat_lt
  have hk2 : 2 ^ k < 256 := by
    have := Nat.pow_lt_pow_right (a := 2) (by decide) hk
    exact this
  rw [hp', bitXor_nat] at hr
  have hx : ((x.getD i 0).toNat ^^^ 2 ^ k) < 256 := Nat.xor_lt_two_pow (n := 8) hlt hk2
  subst hr
  refine ⟨by omega, by omega, fun e => ?_⟩
  have e2 := congrArg UInt8.toNat e
  rw [show (byteOf (((x.getD i 0).toNat ^^^ 2 ^ k : Nat) : Int)).toNat = (x.getD i 0).toNat ^^^ 2 ^ k from by
    have := byteOf_val (k := (((x.getD i 0).toNat ^^^ 2 ^ k : Nat) : Int)) (by omega) (by omega)
    omega] at e2
  exact flip_ne (Nat.ne_of_gt (Nat.pow_pos (by decide : 0 < 2))) e2
theorem head2 {x R : List UInt8} (h : x = byteOf 120 :: byteOf 1 :: R) : 2 ≤ x.length ∧ x.getD 0 0 = 120 ∧ x.getD 1 0 = 1 := by
  subst h; exact ⟨by simp, rfl, rfl⟩
theorem strm_head (x : List UInt8) (most : Nat) (n : Int) : ∃ R, streamV x most n = byteOf 120 :: byteOf 1 :: R := ⟨_, rfl⟩
theorem cut_head {x R : List UInt8} (k : Nat) (h : x = byteOf 120 :: byteOf 1 :: R) (hk : 2 ≤ k) : ∃ R', x.take k = byteOf 120 :: byteOf 1 :: R' := by
  subst h
  obtain ⟨j, rfl⟩ : ∃ j, k = j + 2 := ⟨k - 2, by omega⟩
  exact ⟨R.take j, rfl⟩
section
variable {w : World} {A : Around} {G h₀ : Heap} {L : Addr} {m : Str → Option Value} {s : Shared} {news : List (Addr × Obj)} {Q : Value → Shared → Prop} {E : Value → Shared → Prop}
theorem pool_use {p : Addr} {vs : List Value} {ks : List Int} (S : Site w A G s.heap 5 40) (F : Fr h₀ L s.heap m) (N : News h₀ L s.heap news) (hp : h₀.IsList p vs.toArray) (hv : IntsAre vs ks) (hlen : vs.length ≤ 63)
    (ret : ∀ h' tk l a b ta tb n, Fr h₀ L h' m → News h₀ L h' ((l, listOf #[.int a ta, .int b tb] n) :: news) → (∀ q ∈ news, q.1 ≠ l) → 0 ≤ a → 0 ≤ b → b < 2147483647 → Q (.ref l) { s with heap := h', toks := tk }) :
    wpAny (model PySem.Challenge.rw_nu0004_01.row.prog w) A (call (.ref 112) [.ref p]) Q E s :=
  pool_spec S (Fr.lst F hp) hv hlen fun h' tk l a b ta tb n k1 k2 k3 k4 k5 k6 => ret h' tk l a b ta tb n (F.keeps k1) (news_grow F N k1 k2 k3) (fun q hq e => by have := (N q hq).1; rw [e, k2] at this; cases this) k4 k5 k6
end
theorem take_any {w : World} {A : Around} {G h₀ : Heap} {L : Addr} {m : Str → Option Value} {s : Shared} {src : Addr} {n : Nat} {a b top : Int} {ta tb tt : Tok} {news : List (Addr × Obj)} {Q : Value → Shared → Prop} {E : Value → Shared → Prop}
    (S : Site w A G s.heap 5 40) (hG : G.get? src = none) (F : Fr h₀ L s.heap m) (N : News h₀ L s.heap news) (hm : (src, listOf #[.int a ta, .int b tb] n) ∈ news)
    (ha : 0 ≤ a) (hb0 : 0 ≤ b) (hb : b < 2147483647) (h0 : 0 < top) (ht : top < 1000000)
    (ret : ∀ h' tk t ta' tb' r a' b', Fr h₀ L h' m → (∀ rest, (∀ q ∈ rest, q ∈ news ∧ q.1 ≠ src) → News h₀ L h' ((src, listOf #[.int a' ta', .int b' tb'] n) :: rest)) → 0 ≤ a' → 0 ≤ b' → b' < 2147483647 → 0 ≤ r → r < top → Q (.int r t) { s with heap := h', toks := tk }) :
    wpAny (model PySem.Challenge.rw_nu0004_01.row.prog w) A (call (.ref 119) [.ref src, .int top tt]) Q E s := by
  have hs := N _ hm
  refine take_spec S hs.1 hG ha hb0 hb h0 ht fun h' tk t ta' tb' r a' b' k1 k2 k3 k4 k5 k6 k7 => ret h' tk t ta' tb' r a' b' (Fr.but F k1 hs.2.1 hs.2.2) (fun rest hr => ?_) k3 k4 k5 k6 k7
  refine News.but (o := listOf #[.int a ta, .int b tb] n) (fun q hq => ?_) k1 k2 fun q hq => (hr q hq).2
  rcases List.mem_cons.mp hq with rfl | hq
  · exact hs
  · exact N _ (hr q hq).1
theorem evalArgs_two {M : Model} {A : Around} {E : Value → Shared → Prop} {s : Shared} {env : Env} {f : Value} {e e' : Expr} {pos : Pos} {Q : Args → Shared → Prop} (h : wpAny M A (eval e env) (fun v s₁ => wpAny M A (eval e' env) (fun v' s₂ => Q ⟨[v, v'], []⟩ s₂) E s₁) E s)
    (he : starEach [e, e'] env = [(false, eval e env), (false, eval e' env)]) : wpAny M A (evalArgs f true (backTo pos (starEach [e, e'] env)) []) Q E s := by
  rw [he]
  show wpAny M A (evalArgs f true ((false, eval e env) :: (false, eval e' env) :: []) []) Q E s
  exact PySem.Calls.evalArgs_plain (PySem.Calls.spliced_cons (wpAny_mono h (fun v s₁ h₁ => PySem.Calls.spliced_cons (wpAny_mono h₁ (fun v' s₂ h₂ => PySem.Calls.spliced_nil h₂) fun _ _ x => x)) fun _ _ x => x))
theorem one_any {w : World} {A : Around} {G h₀ : Heap} {L : Addr} {m : Str → Option Value} {s : Shared} {src l : Addr} {n sz : Nat} {a b : Int} {ta tb : Tok} {vs : List Value} {ks : List Int} {news : List (Addr × Obj)} {Q : Value → Shared → Prop} {E : Value → Shared → Prop}
    (S : Site w A G s.heap 6 60) (hG : G.get? src = none) (F : Fr h₀ L s.heap m) (N : News h₀ L s.heap news) (hm : (src, listOf #[.int a ta, .int b tb] n) ∈ news) (hl : (l, listOf vs.toArray sz) ∈ news) (hls : l ≠ src)
    (ha : 0 ≤ a) (hb0 : 0 ≤ b) (hb : b < 2147483647) (hv : IntsAre vs ks) (hk : 0 < ks.length) (hk2 : ks.length < 1000)
    (ret : ∀ h' tk t ta' tb' r a' b', Fr h₀ L h' m → (∀ rest, (∀ q ∈ rest, q ∈ news ∧ q.1 ≠ src) → News h₀ L h' ((src, listOf #[.int a' ta', .int b' tb'] n) :: rest)) → 0 ≤ a' → 0 ≤ b' → b' < 2147483647 → r ∈ ks → Q (.int r t) { s with heap := h', toks := tk }) :
    wpAny (model PySem.Challenge.rw_nu0004_01.row.prog w) A (call (.ref 126) [.ref src, .ref l]) Q E s := by
  have hs := N _ hm
  refine one_spec (tt := 0) S hs.1 hG ⟨_, (N _ hl).1, rfl, _, rfl⟩ hls hv hk hk2 ha hb0 hb fun h' tk t ta' tb' r a' b' k1 k2 k3 k4 k5 k6 => ret h' tk t ta' tb' r a' b' (Fr.but F k1 hs.2.1 hs.2.2) (fun rest hr => ?_) k3 k4 k5 k6
  refine News.but (o := listOf #[.int a ta, .int b tb] n) (fun q hq => ?_) k1 k2 fun q hq => (hr q hq).2
  rcases List.mem_cons.mp hq with rfl | hq
  · exact hs
  · exact N _ (hr q hq).1
theorem comp_rest {prog : Program} {w : World} {A : Around} {h₀ : Heap} {L : Addr} {m : Str → Option Value} {env : Env} {elt : Expr} {x : Str} {scope : Scope} {cl : List (Str × Addr)} {s : Shared} {S : List (Addr × Obj) → Prop} {P : Nat → Value → Prop} {Fin : List Value → List (Addr × Obj) → Prop}
    (Good : Nat → List Value → List (Addr × Obj) → Prop)
    (turn : ∀ i ys news v I oI C oC D m₂ h tk (E' : Value → Shared → Prop), Good i ys news → P i v → LCg.NsObj oC m₂ → m₂ x = some v → Fr h₀ L h m → News h₀ L h ((I, oI) :: (C, oC) :: (D, LCg.lst ys) :: news) → LCg.Off3 I C D news → ((@Ne Nat I C) ∧ (@Ne Nat I D) ∧ (@Ne Nat C D)) →
      wpAny (model prog w) A (eval elt (compEnvC scope cl C env)) (LCg.CompEnd h₀ L m { s with heap := h, toks := tk } I oI C oC D (LCg.lst ys) S (fun y news' => Good (i + 1) (ys ++ [y]) news')) E' { s with heap := h, toks := tk }) :
    ∀ (j i : Nat) (ys : List Value) (news : List (Addr × Obj)), (∀ ys news, Good (i + j) ys news → Fin ys news) → Good i ys news → LCg.CompRest prog w A h₀ L m env elt x scope cl s S P Fin j i ys news := by
  intro j
  induction j with
  | zero => intro i ys news fin hg; exact LCg.CompRest.zero (fin _ _ hg)
  | succ j ih =>
    intro i ys news fin hg
    refine LCg.CompRest.succ ?_
    intro v I oI C oC D m₂ h tk E' hv hC hx F N off ne
    refine wpAny_mono (turn i ys news v I oI C oC D m₂ h tk E' hg hv hC hx F N off ne) (fun y s₂ hq => ?_) fun _ _ e => e
    obtain ⟨h', tk', nw, e, F', N', off', hS, hn⟩ := hq
    exact ⟨h', tk', nw, e, F', N', off', hS, ih (i + 1) _ _ (fun ys news q => fin ys news (by rw [show i + (j + 1) = i + 1 + j by omega]; exact q)) hn⟩
theorem strm_use {w : World} {A : Around} {G h₀ : Heap} {L : Addr} {m : Str → Option Value} {s : Shared} {news : List (Addr × Obj)} {x : List UInt8} {tx tn : Tok} {n : Int} {Q : Value → Shared → Prop} {E : Value → Shared → Prop}
    (S : Site w A G s.heap 6 60) (F : Fr h₀ L s.heap m) (N : News h₀ L s.heap news) (hx : x.length < 1000) (h0 : 0 < n) (h1 : n ≤ 65535)
    (ret : ∀ h' tk t, Fr h₀ L h' m → News h₀ L h' news → Q (.bytes (streamV x n.toNat (sumV (bin x))).toArray t) { s with heap := h', toks := tk }) :
    wpAny (model PySem.Challenge.rw_nu0004_01.row.prog w) A (call (.ref 152) [.bytes x.toArray tx, .int n tn]) Q E s :=
  stream_spec S hx h0 h1 fun h' tk t k => ret h' tk t (F.keeps k) (News.keeps N k)
section
variable {w : World} {A : Around} {G h₀ : Heap} {L : Addr} {m : Str → Option Value} {s : Shared} {news : List (Addr × Obj)} {x : List UInt8} {tx tn : Tok} {n : Int} {Q : Value → Shared → Prop} {E : Value → Shared → Prop}
theorem take1_use {src c : Addr} {o : Obj} {k : Nat} {a b top : Int} {ta tb tt : Tok} (S : Site w A G s.heap 5 40) (hG : G.get? src = none) (F : Fr h₀ L s.heap m) (N : News h₀ L s.heap [(src, listOf #[.int a ta, .int b tb] k), (c, o)]) (d : c ≠ src)
    (ha : 0 ≤ a) (hb0 : 0 ≤ b) (hb : b < 2147483647) (h0 : 0 < top) (ht : top < 1000000)
    (ret : ∀ h' tk t ta' tb' r a' b', Fr h₀ L h' m → News h₀ L h' [(src, listOf #[.int a' ta', .int b' tb'] k), (c, o)] → 0 ≤ a' → 0 ≤ b' → b' < 2147483647 → 0 ≤ r → r < top → Q (.int r t) { s with heap := h', toks := tk }) :
    wpAny (model PySem.Challenge.rw_nu0004_01.row.prog w) A (call (.ref 119) [.ref src, .int top tt]) Q E s :=
  take_any S hG F N (.head _) ha hb0 hb h0 ht fun h' tk t ta' tb' r a' b' k1 k2 k3 k4 k5 k6 k7 => ret h' tk t ta' tb' r a' b' k1 (k2 [(c, o)] (by
    intro q hq
    rcases List.mem_singleton.mp hq with rfl
    exact ⟨.tail _ (.head _), d⟩)) k3 k4 k5 k6 k7
theorem sumb_use (S : Site w A G s.heap 5 40) (F : Fr h₀ L s.heap m) (N : News h₀ L s.heap news)
    (ret : ∀ h' tk t v, Fr h₀ L h' m → News h₀ L h' news → v = sumV (bin x) → 0 ≤ v → v < 4294967296 → Q (.int v t) { s with heap := h', toks := tk }) :
    wpAny (model PySem.Challenge.rw_nu0004_01.row.prog w) A (call (.ref 140) [.bytes x.toArray tx]) Q E s :=
  sum_use S F N fun h' tk t v k1 k2 e => ret h' tk t v k1 k2 e (e ▸ (sumV_bounds _).1) (e ▸ (sumV_bounds _).2)
theorem adlw_use (S : Site w A G s.heap 5 40) (F : Fr h₀ L s.heap m) (N : News h₀ L s.heap news)
    (ret : ∀ h' tk t v, Fr h₀ L h' m → News h₀ L h' news → v = sumV (bin x) → 0 ≤ v → v < 4294967296 → Q (.int v t) { s with heap := h', toks := tk }) : wpAny (model PySem.Challenge.rw_nu0004_01.row.prog w) A (call (.ref 83) [.bytes x.toArray tx]) Q E s :=
  adl1_use S F N fun h' tk t v k1 k2 e e1 e2 => ret h' tk t v k1 k2 (e.trans (adlV_sumV _)) e1 e2
theorem crcw_use (S : Site w A G s.heap 6 60) (F : Fr h₀ L s.heap m) (N : News h₀ L s.heap news)
    (ret : ∀ h' tk t v, Fr h₀ L h' m → News h₀ L h' news → v = checkV (bin x) → 0 ≤ v → v < 4294967296 → Q (.int v t) { s with heap := h', toks := tk }) : wpAny (model PySem.Challenge.rw_nu0004_01.row.prog w) A (call (.ref 75) [.bytes x.toArray tx]) Q E s :=
  crc1_use S F N fun h' tk t v k1 k2 e e1 e2 => ret h' tk t v k1 k2 (e.trans (crc_whole _)) e1 e2
theorem gp_use (S : Site w A G s.heap 5 40) (F : Fr h₀ L s.heap m) (N : News h₀ L s.heap news) (h0 : 0 ≤ n) (h1 : n < 4294967296)
    (ret : ∀ h' tk t v, Fr h₀ L h' m → News h₀ L h' news → v = n → Q (.int v t) { s with heap := h', toks := tk }) : wpAny (model PySem.Challenge.rw_nu0004_01.row.prog w) A (call (.ref 60) [.bytes (be32 n).toArray tx, .int 0 tn]) Q E s :=
  get32_use S F N (by decide) (by show (0 : Int) + 4 ≤ ((4 : Nat) : Int); decide) (by show 4 < 1000000; decide) fun h' tk t v k1 k2 e => ret h' tk t v k1 k2 (e.trans (val32_be32 h0 h1))
end
theorem sum_parts (x : List UInt8) (k : Nat) : adlV (bin (x.drop k)) (sumV (bin (x.take k))) = sumV (bin x) := by
  rw [← adlV_sumV, adl_parts]
theorem chk_parts (x : List UInt8) (k : Nat) : crcV (bin (x.drop k)) (checkV (bin (x.take k))) = checkV (bin x) := by
  rw [← crc_whole, crc_parts]
noncomputable def s258 : List UInt8 := List.replicate 258 255
theorem s258_length : s258.length = 258 := List.length_replicate
theorem s258_eq : byteArr (List.replicate (Int.toNat 258) [(255 : Int)]).flatten = s258.toArray := by
  rw [List.flatten_replicate_singleton]
  show (List.map byteOf (List.replicate 258 255)).toArray = _
  rw [List.map_replicate]
  rfl
theorem b258_use {w : World} {A : Around} {h₀ : Heap} {L : Addr} {m : Str → Option Value} {s : Shared} {news : List (Addr × Obj)} {D : Addr} {l : Addr × Obj} {t0 : Tok} {Q : Value → Shared → Prop} {E : Value → Shared → Prop}
    (F : Fr h₀ L s.heap m) (N : News h₀ L s.heap ((D, listOf (List.replicate (Int.toNat 258) [Value.int 255 t0]).flatten.toArray 0) :: l :: news)) (hh : A.handled = none) (hs : s258.length = 258)
    (ret : ∀ h' t k, Fr h₀ L h' m → News h₀ L h' news → Q (.bytes s258.toArray t) { s with heap := h', toks := k }) : wpAny (model PySem.Challenge.rw_nu0004_01.row.prog w) A (call (.type "bytes") [.ref D]) Q E s := by
  have hi : IntsAre (List.replicate (Int.toNat 258) [Value.int 255 t0]).flatten (List.replicate (Int.toNat 258) [(255 : Int)]).flatten := by
    rw [List.flatten_replicate_singleton, List.flatten_replicate_singleton]
    generalize Int.toNat 258 = n
    induction n with
    | zero => exact IntsAre.nil
    | succ n ih => exact IntsAre.cons _ _ ih
  refine bytes_K F N ⟨_, (N _ (.head _)).1, rfl, _, rfl⟩ hi ?_ ?_ hh fun h' t k F' N' _ => ?_
  · intro n hn
    rw [List.flatten_replicate_singleton] at hn
    rw [List.eq_of_mem_replicate hn]; decide
  · rw [List.flatten_replicate_singleton, List.length_replicate, sizeLine_eq]; decide
  · have e : ((List.replicate (Int.toNat 258) [(255 : Int)]).flatten.map fun n => n.toNat.toUInt8).toArray = s258.toArray := s258_eq
    rw [e]
    exact ret h' t k F' fun q hq => N' q (.tail _ (.tail _ hq))
theorem fr_gen {g h : Heap} {L : Addr} {z : Str} {v : Int} {t : Tok} {m' : Str → Option Value} (F : Fr g L h (fun y => if y = z then some (Value.int v t) else m' y)) (hv : 0 ≤ v) :
    ∃ a ta, 0 ≤ a ∧ Fr g L h (fun y => if y = z then some (Value.int a ta) else m' y) := ⟨v, t, hv, F⟩
theorem bytes_add_L {prog : Program} {w : World} {A : Around} {E : Value → Shared → Prop} {s : Shared} {b c : List UInt8} {t u : Tok} {Q : Value → Shared → Prop} (hsz : b.length + c.length ≤ 16777216) (h : ∀ t' k, Q (.bytes (b ++ c).toArray t') { s with toks := k }) :
    wpAny (model prog w) A (binaryOp .Add (.bytes b.toArray t) (.bytes c.toArray u)) Q E s :=
  bytes_add_K (by rw [List.size_toArray, List.size_toArray]; exact hsz) rfl h
theorem flip_all {most : Nat} {x : List UInt8} {j r : Int} (hm : 0 < most) (hm2 : most ≤ 65535) (hl : (streamV x most (sumV (bin x))).length < 1000) (h0 : 2 ≤ j) (h1 : j < ((streamV x most (sumV (bin x))).length : Int)) (hf : byteOf r ≠ (streamV x most (sumV (bin x))).getD j.toNat 0) :
    ((streamV x most (sumV (bin x))).take j.toNat ++ [byteOf r] ++ (streamV x most (sumV (bin x))).drop (j + 1).toNat).length < 1000000 ∧
    2 ≤ ((streamV x most (sumV (bin x))).take j.toNat ++ [byteOf r] ++ (streamV x most (sumV (bin x))).drop (j + 1).toNat).length ∧
    ((streamV x most (sumV (bin x))).take j.toNat ++ [byteOf r] ++ (streamV x most (sumV (bin x))).drop (j + 1).toNat).getD 0 0 = 120 ∧
    ((streamV x most (sumV (bin x))).take j.toNat ++ [byteOf r] ++ (streamV x most (sumV (bin x))).drop (j + 1).toNat).getD 1 0 = 1 ∧
    unsV ((streamV x most (sumV (bin x))).take j.toNat ++ [byteOf r] ++ (streamV x most (sumV (bin x))).drop (j + 1).toNat) = none := by
  have e : (streamV x most (sumV (bin x))).take j.toNat ++ [byteOf r] ++ (streamV x most (sumV (bin x))).drop (j + 1).toNat = (streamV x most (sumV (bin x))).take j.toNat ++ byteOf r :: (streamV x most (sumV (bin x))).drop (j.toNat + 1) := by
    rw [List.append_assoc, show (j + 1).toNat = j.toNat + 1 by omega]; rfl
  rw [e]
  obtain ⟨hu, R', hR'⟩ := unsV_flip hm hm2 x j.toNat (byteOf r) (by omega) (by omega) hf
  have hh := head2 hR'
  refine ⟨?_, hh.1, hh.2.1, hh.2.2, hu⟩
  rw [List.length_append, List.length_cons, List.length_take, List.length_drop]; omega
end Mine
end
section
open PySem PySem.W PyProof.Rows
set_option Elab.async false
set_option linter.unusedVariables false
namespace Mine

local macro_rules | `(tactic| walk_at "call ref") => `(tactic| ((with_reducible show wpAny _ _ (call (Value.ref 119) _) _ _ _); refine Hold.out ?_))
local macro_rules | `(tactic| walk_at "call ref") => `(tactic| ((with_reducible show wpAny _ _ (call (Value.ref 126) _) _ _ _); refine Hold.out ?_))
local macro_rules | `(tactic| walk_at "call ref") => `(tactic| ((with_reducible show wpAny _ _ (call (Value.ref 112) _) _ _ _); k_dflt (refine' pool_use (by walk_at "S") (by k_asm) (by k_asm) (by assumption) (by assumption) (by assumption) ?_); intro h9 tk9 l9 a9 b9 ta9 tb9 n9 F9 N9 d9 e1 e2 e3; (try k_sweep)))
local macro_rules | `(tactic| walk_at "call ref") => `(tactic| ((with_reducible show wpAny _ _ (call (Value.ref 152) _) _ _ _); k_dflt (refine' strm_use (by walk_at "S") (by k_asm) (by k_asm) ?x ?h0 ?h1 ?_; (case x => first | omega | (simp; done)); (case h0 => omega); (case h1 => omega)); intro h9 tk9 t9 F9 N9; (try k_sweep)))
local macro_rules | `(tactic| walk_at "call ref") => `(tactic| ((with_reducible show wpAny _ _ (call (Value.ref _) _) _ _ _); (try dsimp only [List.nil_append, List.cons_append]); (with_reducible (first | refine' put32_use ?S ?F ?N ?h ?k ?_ | refine' gp_use ?S ?F ?N ?h ?k ?_ | refine' adl2_use ?S ?F ?N ?h ?k ?_ | refine' crc2_use ?S ?F ?N ?h ?k ?_ | refine' sumb_use ?S ?F ?N ?_ | refine' adlw_use ?S ?F ?N ?_ | refine' crcw_use ?S ?F ?N ?_ | refine' chk_use ?S ?F ?N ?_)); k_dflt ((case S => walk_at "S"); (case F => k_asm); (case N => k_asm); (try ((case h => first | assumption | omega); (case k => first | assumption | omega)))); intros; (try k_sweep)))
local macro_rules | `(tactic| walk_at "call ref") => `(tactic| ((with_reducible show wpAny _ _ (call (Value.ref 119) _) _ _ _); k_dflt (refine' take1_use (by walk_at "S") ?G (by k_asm) (by k_asm) ?d ?a ?b ?c ?h0 ?h1 ?_; (case G => assumption); (case d => assumption); (case a => assumption); (case b => assumption); (case c => assumption); (case h0 => omega); (case h1 => omega)); intro h9 tk9 t9 ta9 tb9 r9 a9 b9 F9 N9 e9 e8 e7 e6 e5; (try k_sweep)))
local macro_rules | `(tactic| walk_at "call type:bytes") => `(tactic| ((with_reducible show wpAny _ _ (call (Value.type "bytes") [Value.ref _]) _ _ _); k_dflt (refine' b258_use (by k_asm) (by k_asm) rfl (by assumption) ?_); intro h9 t9 tk9 F9 N9; (try k_sweep)))
local macro_rules | `(tactic| walk_at "binaryOp Add bytes bytes") => `(tactic| ((with_reducible show wpAny _ _ (binaryOp Operator.Add (Value.bytes (List.toArray _) _) (Value.bytes (List.toArray _) _)) _ _ _); k_dflt (refine' bytes_add_L ?z ?_; (case z => (simp only [List.length_append, List.length_take, List.length_drop, List.length_cons, List.length_nil]; omega))); intro _ _; (try dsimp only)))

set_option maxRecDepth 100000 in
set_option maxHeartbeats 2000000 in
theorem law_spec {w : World} {A : Around} {G : Heap} {s : Shared} {p : Addr} {vs : List Value} {ks : List Int} {Q : Value → Shared → Prop} {E : Value → Shared → Prop}
    (S : Site w A G s.heap 20 200) (hp : s.heap.IsList p vs.toArray) (hv : IntsAre vs ks) (hlen : vs.length ≤ 63)
    (ret : ∀ h' tk, G.StaysIn h' → Q (.bool true) { s with heap := h', toks := tk }) :
    wpS (model PySem.Challenge.rw_nu0004_01.row.prog w) A (call (.ref 157) [.ref p]) Q E s := by
  w_top off
  obtain ⟨hdl, dpt, frm, gds, unt⟩ := A; obtain rfl : hdl = none := S.hnd
  have hK0 := S.kin; have hK9 := Frag.In.keeps S.kin S.gst; revert hK0; k_fill; intro hK0
  refine wpS_call ?_
  refine' enterSC (binds := [(Str.ofString "script", Value.ref p)]) S [] ?hh ?ho ?hcd ?hb ?hl ?hn ?_ ?c2 ?c3 ?c4
  case hh => simp
  case ho => k_is
  case hcd => k_is
  case hb => first | exact hbnd _ _ _ _ (by k_is) | exact BindsTo.of_eq rfl | exact binds_K hK9 rfl (by k_is) rfl rfl rfl
  case hl => exact rfl
  case hn => decide +kernel
  case c2 => exact rfl
  case c3 => exact rfl
  case c4 => exact rfl
  clear hK0 hK9
  intro g L' h₁ tk₁ cells fr mean mg mb hg F N Y S' B X T l1
  dsimp only [List.length, List.map] at l1 hg
  k_cells Y
  simp only [List.cons_append, List.nil_append] at N
  try dsimp only
  refine letS ?_; intro ak qk ek
  have hpg : g.IsList p vs.toArray := by
    obtain ⟨o, h1, h2⟩ := hp
    exact ⟨o, hg g (fun _ _ e => e) _ _ h1 (by simp), h2⟩
  clear S
  replace F : Fr g L' h₁ (fun y => if y = Str.ofString "script" then some (Value.ref p) else none) := F
  rename_i d1
  replace d1 : _ = Data.cell none := d1
  refine wpS_execs_any ?_
  k_fold
  k_steps
  rename_i _ src a1 b1 ta1 tb1 n1 F9 N9 dsrc e1 e2 e3 h8 o2 F8 N8 d8
  clear F9 N9 d1
  simp only [List.cons_append, List.nil_append] at N8
  have hsrcG : G.get? src = none := by
    cases q : G.get? src with
    | none => rfl
    | some o => have := S'.gst _ _ q; rw [(N8 _ (.head _)).2.2] at this; cases this
  have dscH : L' + 1 ≠ src ∧ True := ⟨dsrc (L' + 1, _) (.head _), trivial⟩
  clear dsrc
  have hoff : ∀ q ∈ [(L' + 1, o2)], q ∈ [(src, listOf #[Value.int a1 ta1, Value.int b1 tb1] n1), (L' + 1, o2)] ∧ q.1 ≠ src := by
    intro q hq; rcases List.mem_singleton.mp hq with rfl; exact ⟨.tail _ (.head _), dscH.1⟩
  refine wpS_execs_any ?_
  k_fold
  k_steps
  refine Hold.back ?_
  refine' take_any (Site.less (Site.next S' F8 rfl rfl) (by decide) (by decide)) hsrcG F8 N8 (.head _) e1 e2 e3 (by decide) (by decide) ?_
  intro h7 tk7 t7 ta7 tb7 r7 a7 b7 F7 K7 e4 e5 e6 r0 r1
  have N7 := K7 _ hoff
  clear F8 N8 K7 hoff
  k_steps
  refine Hold.back ?_
  rename_i t1 u1 v1 h6 hr6 F6 N6 k6
  refine LCg.CompSrc.range (n := r7.toNat) rfl F6 N6 hr6 ?hsm ?hn (by rw [sizeLine_eq]; omega) ?_
  case hsm => exact small_one (by omega) (by omega) (by omega) (by omega)
  case hn => rw [rangeSize_nat, Int.sub_zero]
  intro g9
  refine comp_rest (fun i ys news => ∃ a b ta tb ks, news = [(src, listOf #[Value.int a ta, Value.int b tb] n1), (L' + 1, o2)] ∧ 0 ≤ a ∧ 0 ≤ b ∧ b < 2147483647 ∧ IntsAre ys ks ∧ ks.length = i ∧ ∀ k ∈ ks, 0 ≤ k ∧ k < 256) ?turn _ 0 [] _ ?fin ⟨a7, b7, ta7, tb7, [], rfl, e4, e5, e6, IntsAre.nil, rfl, fun k hk => by cases hk⟩
  case turn => 
    rintro i ys news v I oI C oC D m₂ h tk E' ⟨a, b, ta, tb, ks, rfl, f1, f2, f3, f4, f5, f6⟩ hv hC hx F N off ne
    simp only [LCg.Off3, and_true] at off
    k_steps
    refine Hold.back ?_
    refine' take_any (Site.less (Site.next S' F rfl rfl) (by decide) (by decide)) hsrcG F N (.tail _ (.tail _ (.tail _ (.head _)))) f1 f2 f3 (by decide) (by decide) ?_
    intro h5 tk5 t5 ta5 tb5 r5 a5 b5 F5 K5 e7 e8 e9 r2 r3
    have N5 := K5 [(I, oI), (C, oC), (D, LCg.lst ys), (L' + 1, o2)] (by
      intro q hq
      simp only [List.mem_cons, List.mem_nil_iff, or_false] at hq
      rcases hq with rfl | rfl | rfl | rfl
      · exact ⟨by simp, Ne.symm off.1.1⟩
      · exact ⟨by simp, Ne.symm off.1.2.1⟩
      · exact ⟨by simp, Ne.symm off.1.2.2⟩
      · exact ⟨by simp, dscH.1⟩)
    clear F N K5
    k_steps
    refine Hold.back ?_
    rename_i l4 h4 F4 N4 d4
    refine' one_any (ks := [0, 255, 97, r5]) (Site.less (Site.next S' F4 rfl rfl) (by decide) (by decide)) hsrcG F4 N4 (.tail _ (.head _)) (.head _) (Ne.symm (Nat.ne_of_lt d4.1)) e7 e8 e9 (by repeat constructor) (by simp) (by simp) ?_
    intro h3 tk3 t3 ta3 tb3 r4 a3 b3 F3 K3 g1 g2 g3 hr4
    have N3 := K3 [(I, oI), (C, oC), (D, LCg.lst ys), (L' + 1, o2)] (by
      intro q hq
      simp only [List.mem_cons, List.mem_nil_iff, or_false] at hq
      rcases hq with rfl | rfl | rfl | rfl
      · exact ⟨by simp, Ne.symm off.1.1⟩
      · exact ⟨by simp, Ne.symm off.1.2.1⟩
      · exact ⟨by simp, Ne.symm off.1.2.2⟩
      · exact ⟨by simp, dscH.1⟩)
    clear F4 N4 K3
    have hr5 : 0 ≤ r4 ∧ r4 < 256 := by
      simp only [List.mem_cons, List.mem_nil_iff, or_false] at hr4
      omega
    refine LCg.CompEnd.intro F3 N3 [(src, listOf #[Value.int a3 ta3, Value.int b3 tb3] n1), (L' + 1, o2)] ?_ ?_ trivial ⟨a3, b3, ta3, tb3, ks ++ [r4], rfl, g1, g2, g3, IntsAre.append f4 (IntsAre.cons _ _ IntsAre.nil), by rw [List.length_append, f5]; rfl, ?_⟩
    · intro q hq
      simp only [List.mem_cons, List.mem_nil_iff, or_false] at hq ⊢
      rcases hq with rfl | rfl | rfl | rfl | rfl <;> simp
    · simp only [LCg.Off3, and_true]; exact off
    · intro k hk
      rcases List.mem_append.mp hk with hk | hk
      · exact f6 k hk
      · rw [List.mem_singleton.mp hk]; exact hr5
  case fin =>
    rintro ys news ⟨a, b, ta, tb, ks, rfl, f1, f2, f3, f4, f5, f6⟩
    k_steps
    rename_i D9 h9 o9 h8 t8 k8 kin ksum h7 F7 N7
    obtain ⟨x, hx, hxl⟩ : ∃ x : List UInt8, byteArr ks = x.toArray ∧ x.length ≤ 12 := ⟨ks.map byteOf, rfl, by rw [List.length_map]; omega⟩
    rw [hx] at F7
    replace N7 : News g L' h7 [(src, listOf #[Value.int a ta, Value.int b tb] n1), (L' + 1, o2)] := fun q hq => N7 q (.tail _ hq)
    clear kin ksum f4 f5 f6 hx
    refine wpS_execs_any ?_
    k_fold
    k_steps
    refine Hold.back ?_
    rename_i l4 h4 F4 N4 d4
    refine' one_any (ks := [65535, 1, 5, 12]) (Site.less (Site.next S' F4 rfl rfl) (by decide) (by decide)) hsrcG F4 N4 (.tail _ (.head _)) (.head _) (Ne.symm (Nat.ne_of_lt d4.1)) f1 f2 f3 (by repeat constructor) (by decide) (by decide) ?_
    intro h3 tk3 t3 ta3 tb3 n3 a3 b3 F3 K3 g1 g2 g3 hr4
    have N3 := K3 [(L' + 1, o2)] (by
      intro q hq
      rcases List.mem_singleton.mp hq with rfl
      exact ⟨by simp, dscH.1⟩)
    clear F4 N4 K3
    have hn3 : 0 < n3 ∧ n3 ≤ 65535 := by
      simp only [List.mem_cons, List.mem_nil_iff, or_false] at hr4
      omega
    clear hr4
    k_steps
    rename_i h2 F2 N2
    refine wpS_execs_cons ?_
    refine wpS_Assign_Name ?_ (by rfl)
    refine wpS_Call ?_ (by rfl)
    k_steps
    refine wpS_callWith_fn2 ?_
    refine evalArgs_two ?_ (by rfl)
    k_steps
    have F1 := ‹Fr g L' h2 _›
    refine ⟨⟨_, _, (X.keeps F1.keep) 91 _ (by k_is), rfl⟩, ?_⟩
    dsimp only [List.nil_append]
    refine stored2_spec (Site.less (Site.next S' F1 rfl rfl) (by decide) (by decide)) (by omega) hn3.1 hn3.2 fun h1 tk1 ts ks1 => ?_
    replace F1 := F1.keeps ks1
    replace N2 := News.keeps N2 ks1
    rw [adlV_sumV]
    dsimp only at F1 N2 ⊢
    k_steps
    rename_i h0 F0 N0
    try clear F1
    try clear N2
    refine wpS_execs_cons ?_
    refine wpS_If ?_
    refine wpS_isTrue_or ?_
    k_steps
    have hsl : (streamV x n3.toNat (sumV (bin x))).length < 1000 := by
      have := bodyV_len x n3.toNat (by omega)
      unfold streamV
      rw [List.length_append]
      show _ + 4 < 1000
      omega
    have hsl6 : 6 ≤ (streamV x n3.toNat (sumV (bin x))).length := by
      unfold streamV bodyV
      rw [List.length_append]
      show 6 ≤ _ + 4
      simp only [List.length_cons]; omega
    have hsl2 : 2 ≤ (streamV x n3.toNat (sumV (bin x))).length := by omega
    have huns := unsV_stream (most := n3.toNat) (by omega) (by omega) x
    refine wpS_isTrue_Compare1 ?_
    refine wpS_Call ?_ (by rfl)
    k_steps
    refine wpS_callWith_fn2 ?_
    refine evalArgs_one ?_ (by rfl)
    k_steps
    rename Fr g L' _ _ => F1
    rename News g L' _ _ => N1
    refine ⟨⟨_, _, (X.keeps F1.keep) 105 _ (by k_is), rfl⟩, ?_⟩
    dsimp only [List.nil_append]
    refine uns_spec (Site.less (Site.next S' F1 rfl rfl) (by decide) (by decide)) (Around.frames_deeper B.stack) (by omega) hsl2 rfl rfl (fun h1 tk1 tv1 v1 ks1 ev => ?_) (fun q => by rw [huns] at q; cases q)
    obtain rfl : x = v1 := Option.some.inj (huns.symm.trans ev)
    replace F1 := F1.keeps ks1
    replace N1 := News.keeps N1 ks1
    clear ev
    dsimp only at F1 N1 ⊢
    k_steps
    refine wpS_of_any (wpAny_execs_nil ?_)
    show wpS _ _ (execs _ _) _ _ _
    refine wpS_execs_cons ?_
    let mq := fun y => if y = Str.ofString "stream" then some (Value.bytes (streamV x n3.toNat (sumV (bin x))).toArray ts) else if y = Str.ofString "most" then some (Value.int n3 t3) else if y = Str.ofString "octets" then some (Value.bytes x.toArray t8) else if y = Str.ofString "script" then some (Value.ref p) else none
    refine wpS_mono (Q := fun f s' => f = .next ∧ ∃ h' tk a b ta tb, s' = { s with heap := h', toks := tk } ∧ Fr g L' h' mq ∧ News g L' h' [(src, listOf #[Value.int a ta, Value.int b tb] n1), (L' + 1, o2)] ∧ 0 ≤ a ∧ 0 ≤ b ∧ b < 2147483647) ?stmt ?cont (fun _ _ x => x)
    case cont =>
      rintro f s' ⟨rfl, h5, tk5, a5, b5, ta5, tb5, rfl, F5, N5, e7, e8, e9⟩
      show wpS _ _ (execs _ _) _ _ _
      clear F1 N1
      have dsc := dscH.1
      refine wpS_execs_any ?_
      k_fold
      k_steps
      refine wpS_execs_any ?_
      k_fold
      k_steps
      all_goals try (exfalso; omega; done)
      · exfalso
        have c1 := ‹(_ : Int) = adlV (bin (List.drop _ x)) _›
        have c2 := ‹(_ : Int) = sumV (bin (List.take _ x))›
        rw [c2, sum_parts] at c1
        omega
      show wpS _ _ (execs _ _) _ _ _
      refine wpS_execs_any ?_
      k_fold
      k_steps
      refine wpS_execs_any ?_
      k_fold
      k_steps
      rename Fr g L' _ _ => F6
      obtain ⟨at2, ta2, hat2, F6⟩ := fr_gen F6 (by split <;> omega)
      refine wpS_execs_any ?_
      k_fold
      k_steps
      all_goals try (exfalso; omega; done)
      · exfalso
        have c1 := ‹(_ : Int) = crcV (bin (List.drop _ _)) _›
        have c2 := ‹(_ : Int) = checkV (bin (List.take _ (List.take _ x)))›
        rw [c2, chk_parts] at c1
        omega
      show wpS _ _ (execs _ _) _ _ _
      refine wpS_execs_any ?_
      k_fold
      k_steps
      all_goals try (exfalso; omega; done)
      show wpS _ _ (execs _ _) _ _ _
      refine wpS_execs_any ?_
      k_fold
      k_steps
      rename Fr g L' _ _ => F7
      rename News g L' _ _ => N7
      refine wpS_execs_cons ?_
      refine wpS_If ?_
      obtain ⟨R, hR⟩ := strm_head x n3.toNat (sumV (bin x))
      refine wpS_of_any ?_
      k_steps
      · refine wpS_execs_cons ?_
        refine wpS_Return_some ?_
        refine wpS_Call ?_ (by rfl)
        k_steps
        refine wpS_callWith_fn2 ?_
        refine evalArgs_one ?_ (by rfl)
        k_steps
        rename Fr g L' _ _ => F1
        refine ⟨⟨_, _, (X.keeps F1.keep) 147 _ (by k_is), rfl⟩, ?_⟩
        dsimp only [List.nil_append]
        rename_i r9 _ _ _ _ _ _ _ _ _ _ _
        obtain ⟨R', hR'⟩ := cut_head (((streamV x n3.toNat (sumV (bin x))).length : Int) + (-1 - r9)).toNat hR (by omega)
        have hh := head2 hR'
        refine refused_spec (Site.less (Site.next S' F1 rfl rfl) (by decide) (by decide)) (by rw [List.length_take]; omega) hh.1 hh.2.1 hh.2.2 (unsV_cut (by omega) (by omega) x _ _ (by assumption) (by assumption)) (fun h' tk ks => ret h' tk ks)
      refine wpS_of_any (wpAny_execs_nil ?_)
      show wpS _ _ (execs _ _) _ _ _
      refine wpS_execs_cons ?_
      refine wpS_If ?_
      refine wpS_of_any ?_
      k_steps
      · refine wpS_execs_cons ?_
        refine wpS_Return_some ?_
        refine wpS_Call ?_ (by rfl)
        k_steps
        refine wpS_callWith_fn2 ?_
        refine evalArgs_one ?_ (by rfl)
        k_steps
        rename Fr g L' _ _ => F1
        refine ⟨⟨_, _, (X.keeps F1.keep) 147 _ (by k_is), rfl⟩, ?_⟩
        try dsimp only [List.nil_append]
        have hh := fun c : UInt8 => head2 (x := streamV x n3.toNat (sumV (bin x)) ++ [c]) (R := R ++ [c]) (by rw [hR]; rfl)
        refine refused_spec (Site.less (Site.next S' F1 rfl rfl) (by decide) (by decide)) (by rw [List.length_append, List.length_singleton]; omega) (hh _).1 (hh _).2.1 (hh _).2.2 (unsV_long (by omega) (by omega) x _ _) (fun h' tk ks => ret h' tk ks)
      refine wpS_of_any (wpAny_execs_nil ?_)
      show wpS _ _ (execs _ _) _ _ _
      refine wpS_execs_any ?_
      k_fold
      k_steps
      refine wpS_execs_cons ?_
      refine wpS_Return_some ?_
      refine wpS_Call ?_ (by rfl)
      k_steps
      refine wpS_callWith_fn2 ?_
      refine evalArgs_one ?_ (by rfl)
      k_steps
      have c1 := ‹(_ : Int) = Builtin.bitXor _ _›
      have c2 := ‹(_ : Int) = (2 : Int) ^ _›
      have c3 := ‹(_ : Int) = ((((streamV x n3.toNat (sumV (bin x))).getD _ 0).toNat : Nat) : Int)›
      rw [c3] at c1
      have hf := flip_octet (by omega) (by omega) c2 c1
      have hf0 := hf.1
      have hf1 := hf.2.1
      k_steps
      rename Fr g L' _ _ => F1
      refine ⟨⟨_, _, (X.keeps F1.keep) 147 _ (by k_is), rfl⟩, ?_⟩
      try dsimp only [List.nil_append]
      have hy := flip_all (by omega) (by omega) hsl (by omega) (by omega) hf.2.2
      exact refused_spec (Site.less (Site.next S' F1 rfl rfl) (by decide) (by decide)) hy.1 hy.2.1 hy.2.2.1 hy.2.2.2.1 hy.2.2.2.2 (fun h' tk ks => ret h' tk ks)
    refine wpS_If ?_
    refine wpS_isTrue_and ?_
    k_steps
    refine Hold.back ?_
    refine' take_any (Site.less (Site.next S' F1 rfl rfl) (by decide) (by decide)) hsrcG F1 N1 (.head _) g1 g2 g3 (by decide) (by decide) ?_
    intro h5 tk5 t5 ta5 tb5 r5 a5 b5 F5 K5 e7 e8 e9 r2 r3
    have N5 := K5 [(L' + 1, o2)] (by
      intro q hq
      rcases List.mem_singleton.mp hq with rfl
      exact ⟨by simp, dscH.1⟩)
    clear F1 N1 K5
    k_steps
    case refine_2 => exact wpS_of_any (wpAny_execs_nil ⟨rfl, _, _, _, _, _, _, rfl, F5, N5, e7, e8, e9⟩)
    dsimp only
    have h258 := s258_length
    refine wpS_isTrue_Compare1 ?_
    refine wpS_Call ?_ (by rfl)
    k_steps
    refine wpS_callWith_fn2 ?_
    refine evalArgs_one ?_ (by rfl)
    k_steps
    rename Fr g L' _ _ => F1
    rename News g L' _ _ => N1
    refine ⟨⟨_, _, (X.keeps F1.keep) 91 _ (by k_is), rfl⟩, ?_⟩
    dsimp only [List.nil_append]
    refine stored1_spec (Site.less (Site.next S' F1 rfl rfl) (by decide) (by decide)) (by omega) fun h1 tk1 ts ks1 => ?_
    replace F1 := F1.keeps ks1
    replace N1 := News.keeps N1 ks1
    rw [adlV_sumV]
    dsimp only at F1 N1 ⊢
    k_steps
    exact wpS_of_any (wpAny_execs_nil ⟨rfl, _, _, _, _, _, _, rfl, ‹Fr g L' _ _›, ‹News g L' _ _›, e7, e8, e9⟩)
end Mine
end
end
end
end
end
open PySem PySem.W PyProof.Rows
set_option Elab.async false
set_option linter.unusedVariables false
namespace Mine
end Mine
set_option maxRecDepth 100000 in
set_option maxHeartbeats 8000000 in
theorem PySem.Challenge.cw_nu0004_01_holds : PySem.Challenge.rw_nu0004_01.Holds := by
  refine Mine.hd ?_
  k_fill
  intro w s₀ s₁ mg mb G Y fa o pm cd doc dV kV ho hdt hcd hD hmg hgens args vals as hpre hlay hrd hwl hlo
  have KX := kIn_of Y
  refine Ground.open G ?_
  intro T B D TE TW
  wrow_args hpre hlay hrd hwl hlo
  have hL := ‹s₁.heap.IsList _ _›
  have hI := ‹IntsAre _ _›
  have hc := ‹¬ (_ : Int) < _›
  have hfa : fa = 157 := by
    have h1 := mg_of (n := Str.ofString "law") (v := Value.ref 157) KX T.g (by k_is)
    have h2 : mg (Str.ofString "law") = some (Value.ref fa) := hmg
    exact (Value.ref.inj (Option.some.inj (h1.symm.trans h2))).symm
  subst hfa
  have hl := hI.length
  refine Mine.law_spec (G := s₁.heap) ⟨rfl, by decide, by decide, KX, ⟨_, _, _, T⟩, [], below_caller _, fun e he => nomatch he⟩ hL hI (by omega) fun h' tk ks => ?_
  refine GoodW.toG ⟨Or.inl ⟨_, _, _, rfl, raisesW_false ?hn, ReadsW.bool _, ?hp, fun _ => ⟨List.nodup_nil, fun a ha => nomatch ha⟩⟩, ks, rfl, hgens⟩
  case hn => wrow_none_raised
  case hp => wrow_post
