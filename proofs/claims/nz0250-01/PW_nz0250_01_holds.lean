import PyProof.Rows.All
import Wide.All
import OpenK.AllK
import Wide.FinOn
import Lean
import PySem.Challenge.RW_nz0250_01
set_option compiler.extract_closed false
set_option Elab.async false
set_option maxRecDepth 100000
open PySem PySem.W PySem.Spec PySem.Calls PyProof.Rows
namespace Mine
/-! a logic over the contexts whose stack holds no decoder at work: the library's, with one premise more -/
def holders : List String := ["bytearray.__contains__", "bytearray.__mod__", "bytearray.__rmod__", "_struct.pack_into.held", "bytearray.find.held"] ++ Builtin.Bytes.decodersThatHold
def badC : Code → Bool
  | .builtin id _ => holders.contains id
  | _ => false
def CleanL (l : List (Code × Pos)) : Prop := ∀ x ∈ l, badC x.1 = false
def wpC {α : Type} (M : Model) (A : Around) (t : Sem α) (Q : α → Shared → Prop) (E : Value → Shared → Prop) (s : Shared) : Prop :=
  ∀ (Γ : PySem.Ctx) p, Γ.In A → CleanL ((Γ.code, p) :: Γ.below) → Sem.wp M Γ t (fun a _ s' => Q a s') (fun e _ s' => E e s') p s
def codeC (M : Model) (A : Around) (c : Code) (R : Result → Shared → Prop) (s : Shared) : Prop :=
  ∀ (Γ : PySem.Ctx) p, Γ.code = c → Γ.Below A → CleanL Γ.below → wpCode M Γ R p s
theorem cleanL_pos {c : Code} {p q : Pos} {l : List (Code × Pos)} (h : CleanL ((c, p) :: l)) : CleanL ((c, q) :: l) := fun x hx => by
  rcases List.mem_cons.mp hx with rfl | hx
  · exact h (c, p) (.head _)
  · exact h x (.tail _ hx)
theorem cleanL_tail {c : Code} {p : Pos} {l : List (Code × Pos)} (h : CleanL ((c, p) :: l)) : CleanL l := fun x hx => h x (.tail _ hx)
theorem cleanL_cons {c : Code} {p : Pos} {l : List (Code × Pos)} (hc : badC c = false) (h : CleanL l) : CleanL ((c, p) :: l) := fun x hx => by
  rcases List.mem_cons.mp hx with rfl | hx
  · exact hc
  · exact h x hx

section
variable {α β : Type} {M : Model} {A : Around} {E : Value → Shared → Prop} {s : Shared}
theorem wpC_of {t : Sem α} {Q : α → Shared → Prop} (h : wpAny M A t Q E s) : wpC M A t Q E s := fun Γ p hΓ _ => h Γ p hΓ
theorem wpC_mono {t : Sem α} {Q Q' : α → Shared → Prop} {E' : Value → Shared → Prop} (h : wpC M A t Q E s)
    (hQ : ∀ a s, Q a s → Q' a s) (hE : ∀ e s, E e s → E' e s) : wpC M A t Q' E' s :=
  fun Γ p hΓ hc => Sem.wp_mono M Γ t (fun a _ s => hQ a s) (fun e _ s => hE e s) p s (h Γ p hΓ hc)
theorem wpC_bind {m : Sem α} {f : α → Sem β} {Q : β → Shared → Prop} (h : wpC M A m (fun a s' => wpC M A (f a) Q E s') E s) : wpC M A (m >>= f) Q E s := fun Γ p hΓ hc => by
  rw [Sem.wp_bind']
  exact Sem.wp_mono M Γ m (fun a p' s' h' => h' Γ p' hΓ (cleanL_pos hc)) (fun _ _ _ h' => h') p s (h Γ p hΓ hc)
theorem wpC_bindA {m : Sem α} {f : α → Sem β} {Q : β → Shared → Prop} (h : wpAny M A m (fun a s' => wpC M A (f a) Q E s') E s) : wpC M A (m >>= f) Q E s := wpC_bind (wpC_of h)
theorem wpC_bindB {m : Sem α} {f : α → Sem β} {Q : β → Shared → Prop} (h : wpC M A m (fun a s' => wpAny M A (f a) Q E s') E s) : wpC M A (m >>= f) Q E s :=
  wpC_bind (wpC_mono h (fun _ _ x => wpC_of x) fun _ _ x => x)
theorem wpC_onRaise {m : Sem α} {k : Value → Sem Unit} {Q : α → Shared → Prop}
    (h : wpC M A m Q (fun e s' => wpAny M A (k e) (fun _ s'' => E e s'') E s') s) : wpC M A (m.onRaise k) Q E s := fun Γ p hΓ hc => by
  rw [Sem.wp_onRaise]
  exact Sem.wp_mono M Γ m (fun _ _ _ h' => h') (fun e p' s' h' => h' Γ p' hΓ) p s (h Γ p hΓ hc)
theorem wpC_attempt {m : Sem α} {Q : Except Value α → Shared → Prop} (h : wpC M A m (fun a => Q (.ok a)) (fun e => Q (.error e)) s) :
    wpC M A m.attempt Q E s := fun Γ p hΓ hc => by rw [Sem.wp_attempt]; exact h Γ p hΓ hc
theorem wpC_holding {vs : List Value} {m : Sem α} {Q : α → Shared → Prop} (h : wpC M A m Q E s) : wpC M A (holding vs m) Q E s :=
  fun Γ p hΓ hc => by rw [Sem.wp_holding]; exact h Γ p hΓ hc
theorem wpC_keep {vs : List Value} {m : Sem α} {Q : α → Shared → Prop} (h : wpC M A m Q E s) : wpC M A (m.keep vs) Q E s :=
  fun Γ p hΓ hc => by rw [Sem.wp_keep]; exact h Γ p hΓ hc
theorem wpC_stack {Q : List (Code × Pos) → Shared → Prop} (h : ∀ st : List (Code × Pos), CleanL st → Q st s) : wpC M A stack Q E s := fun Γ p _ hc => h _ hc
theorem codeC_of {c : Code} {R : Result → Shared → Prop} (h : codeAny M A c R s) : codeC M A c R s := fun Γ p hc hΓ _ => h Γ p hc hΓ
theorem codeC_mono {c : Code} {R R' : Result → Shared → Prop} (h : codeC M A c R s) (hR : ∀ r s, R r s → R' r s) : codeC M A c R' s :=
  fun Γ p hc hΓ hl => wpCode_mono hR (h Γ p hc hΓ hl)
theorem wpC_run {c : Code} {h : Option Value} {Q : Flow → Shared → Prop}
    (hc : codeC M (A.mark h) c (fun r s' => match r with | .ok f => Q f s' | .error e => E e s') s) (hnb : h ≠ some byPass := by intro x; cases x) : wpC M A (run c h) Q E s :=
  fun Γ p hΓ hl => by rw [Sem.wp_run]; exact hc _ p rfl (hΓ.enter c h p hnb) hl
theorem wpC_runValue {c : Code} {Q : Value → Shared → Prop}
    (hc : codeC M A c (fun r s' => match r with | .ok (.ret v) => Q v s' | .ok _ => False | .error e => E e s') s) : wpC M A (runValue c) Q E s := fun Γ p hΓ hl => by
  rw [Sem.wp_runValue]; exact hc _ p rfl (hΓ.enter c none p (by intro x; cases x)) hl
theorem wpC_call {f : Value} {pos : List Value} {kw : List (Str × Value)} {Q : Value → Shared → Prop}
    (hc : codeC M A (.call f ⟨pos, kw⟩) (fun r s' => match r with | .ok (.ret v) => Q v s' | .ok _ => False | .error e => E e s') s) : wpC M A (call f pos kw) Q E s := wpC_runValue hc
theorem codeC_of_tree {c : Code} {R : Result → Shared → Prop} (hb : badC c = false)
    (h : wpC M (A.under c) (M.den c) (fun fin s' => match fin with | .done f => R (.ok f) s' | .again c' => c'.quiet = true ∧ codeC M A c' R s') (fun e s' => R (.error e) s') s) : codeC M A c R s := fun Γ p hc hΓ hl => by
  rw [wpCode_iff_wp, hc]
  refine Sem.wp_mono M Γ _ (fun fin p' s' h' => ?_) (fun _ _ _ h' => h') p s (h Γ p (hc ▸ hΓ.in) (cleanL_cons (hc ▸ hb) hl))
  cases fin with
  | done f => exact h'
  | again c' => exact ⟨h'.1, h'.2 (Γ.goto c') p' rfl (hΓ.goto c') hl⟩
theorem codeC_loop {c : Code} {R : Result → Shared → Prop} (hb : badC c = false) (hq : c.quiet = true) (I : Nat → Shared → Prop)
    (turn : ∀ n s, I n s → wpC M (A.under c) (M.den c)
      (fun fin s' => match fin with | .done f => R (.ok f) s' | .again c' => (c' = c ∧ ∃ m, m < n ∧ I m s') ∨ (c'.quiet = true ∧ codeC M A c' R s')) (fun e s' => R (.error e) s') s)
    (n : Nat) (h : I n s) : codeC M A c R s := by
  induction n using Nat.strongRecOn generalizing s with
  | ind n ih =>
    refine codeC_of_tree hb (wpC_mono (turn n s h) (fun fin s' hf => ?_) fun _ _ h' => h')
    cases fin with
    | done f => exact hf
    | again c' =>
      rcases hf with ⟨rfl, m, hm, hI⟩ | hf
      · exact ⟨hq, ih m hm hI⟩
      · exact hf
end

section
variable {M : Model} {A : Around} {E : Value → Shared → Prop} {s : Shared} {env : Env}
theorem execsC {st : Stmt} {rest : List Stmt} {Q : Flow → Shared → Prop}
    (h : wpC M A (exec st env) (fun f s' => match f with | .next => wpC M A (execs rest env) Q E s' | f => Q f s') E s) : wpC M A (execs (st :: rest) env) Q E s := by
  rw [execs_cons]
  refine wpC_bind (wpC_mono h (fun f s' h' => ?_) fun _ _ x => x)
  cases f <;> first | exact h' | exact wpC_of (wpAny_pure h')
/-- a statement that the library walks, the rest over clean contexts -/
theorem execsC_A {st : Stmt} {rest : List Stmt} {Q : Flow → Shared → Prop}
    (h : wpAny M A (exec st env) (fun f s' => match f with | .next => wpC M A (execs rest env) Q E s' | f => Q f s') E s) : wpC M A (execs (st :: rest) env) Q E s := execsC (wpC_of h)
theorem execsC_last {st : Stmt} {Q : Flow → Shared → Prop} (h : wpC M A (exec st env) Q E s) : wpC M A (execs [st] env) Q E s :=
  execsC (wpC_mono h (fun f s' h' => by cases f <;> first | exact h' | exact wpC_of (wpAny_execs_nil h')) fun _ _ x => x)
theorem execC_Expr {e : PySem.Expr} {pos : Pos} {Q : Flow → Shared → Prop} (h : wpC M A (eval e env) (fun v s' => match v with | .ref _ => False | _ => Q .next s') E s)
    (hi : interactive env = false := by rfl) (hs : swapsWith e none pos.line env = pure false := by rfl) : wpC M A (exec (.Expr e pos) env) Q E s := by
  rw [exec_Expr env e pos hi hs]
  refine wpC_bindA (wpAny_standAt (wpC_bind (wpC_mono h (fun v s' h' => ?_) fun _ _ x => x)))
  have hv : ∀ a, v ≠ .ref a := fun a hva => by subst hva; exact h'
  rw [dropValue_plain hv]
  refine wpC_of (wpAny_pure ?_)
  cases v <;> first | exact h' | exact (hv _ rfl).elim
theorem execC_Assign {x : Str} {pos' : Pos} {value : PySem.Expr} {pos : Pos} {Q : Flow → Shared → Prop}
    (h : wpC M A (eval value env) (fun v s₁ => wpAny M A (storeName env x v) (fun _ => Q .next) E s₁) E s)
    (hs : swapsWith value (some (.Name x pos')) pos.line env = pure false := by rfl) : wpC M A (exec (.Assign [.Name x pos'] value pos) env) Q E s := fun Γ p hΓ hc => by
  simp only [exec_Assign_Name env x pos' value pos hs, Sem.wp_bind', Sem.wp_cmd_standAt, Sem.wp_bindName, Sem.wp_pure']
  exact Sem.wp_mono M Γ _ (fun v _ s₁ h₁ => h₁ Γ _ hΓ) (fun _ _ _ h' => h') _ _ (h Γ _ hΓ (cleanL_pos hc))
theorem execC_Return {e : PySem.Expr} {pos : Pos} {Q : Flow → Shared → Prop} (h : wpC M A (eval e env) (fun v => Q (.ret v)) E s) : wpC M A (exec (.Return (some e) pos) env) Q E s := fun Γ p hΓ hc => by
  simp only [exec_Return_some, Sem.wp_bind', Sem.wp_cmd_standAt, Sem.wp_pure']; exact h Γ _ hΓ (cleanL_pos hc)
theorem wpC_runOwn {c : Code} {h : Option Value} {Q : Flow → Shared → Prop}
    (hc : codeC M (A.mark h) c (fun r s' => match r with | .ok f => Q f s' | .error e => cameBackBy M A env E e s') s) (hnb : h ≠ some byPass := by intro x; cases x) : wpC M A (runOwn c env h) Q E s := by
  unfold runOwn
  exact wpC_onRaise (wpC_run hc hnb)
theorem execC_For {target iter : PySem.Expr} {body orelse : List Stmt} {pos : Pos} {Q : Flow → Shared → Prop}
    (h : wpAny M A (eval iter env) (fun x s₁ => wpAny M A (pyIter x) (fun it s₂ =>
      codeC M A (.forLoop target it body orelse env) (fun r s' => match r with | .ok f => Q f s' | .error e => cameBackBy M A env E e s') s₂) E s₁) E s)
    (hs : ∀ x, foldedSetIterable iter env x = pure x := by intro _; rfl) : wpC M A (exec (.For target iter body orelse pos) env) Q E s := by
  rw [exec_For]
  exact wpC_bindA (wpAny_standAt (wpC_bindA (wpAny_mono h (fun x s₁ h₁ => wpC_bindA (wpAny_of_eq (hs x) (wpC_bindA (wpAny_standAt (wpC_bindA (wpAny_holding
    (wpAny_mono h₁ (fun it s₂ h₂ => wpC_runOwn h₂) fun _ _ h' => h'))))))) fun _ _ h' => h')))
end
/-! the head of an open law whose walk is asked over clean contexts alone -/
theorem wpC_nsGet {M : Model} {A : Around} {E : Value → Shared → Prop} {s : Shared} {a : Addr} {m : Str → Option Value} {name : Str} {Q : Option Value → Shared → Prop} (hn : s.heap.Ns a m) (h : Q (m name) s) : wpC M A (nsGet a name) Q E s := wpC_of (wpAny_nsGet hn h)
theorem clean_caller (p : Pos) : CleanL [(Code.builtin "claim.caller" {}, p)] := fun x hx => by
  obtain rfl := List.mem_singleton.mp hx
  show holders.contains "claim.caller" = false
  decide +kernel
/-- the caller's own context is clean: a thread whose body is walked over clean contexts ends so -/
theorem thread_endsC {prog : Program} {w : World} {t : Sem Fin} {s : Shared} {R : Result → Shared → Prop} (hreg : s.asleep)
    (h : wpC (model prog w) callerA t (fun fin s' => ∃ f, fin = .done f ∧ (R (.ok f) s' ∧ leftWithCleanup s'.gens = false)) (fun e s' => R (.error e) s' ∧ leftWithCleanup s'.gens = false) s) :
    ∃ n r s' s'', runN (denote table) prog w n s ⟨t, .builtin "claim.caller" {}, default, []⟩ = .halted (outcomeOf r) s' ∧
      schedN (denote table) prog w n (.single s ⟨t, .builtin "claim.caller" {}, default, []⟩) = .halted (outcomeOf r) s' ∧ s'.forget = s''.forget ∧ R r s'' := by
  have hw := h _ default caller_in (clean_caller default)
  obtain ⟨n, r, sa, sb, h1, h2, h3, h4⟩ := wp_halts_full (M := model prog w) (R := R) hreg (Sem.wp_mono _ _ t (fun fin _ _ x => by obtain ⟨_, rfl, y⟩ := x; exact y) (fun _ _ _ x => x) default s hw)
  exact ⟨n, r, sb, sa, h2, h1, h3, h4⟩
abbrev WalkC (q : Program) (loose : List Str) (XP : (Str → Option Value) → Heap → Prop) (YP : World → Heap → Prop) (r : RowW) (d : DefRec) (kwd : List (Str × PySem.Expr)) (run : Value → List Value → Sem Value) : Prop :=
  ∀ (w : World) (s₀ s₁ : Shared) (mg mb : Str → Option Value), Ground q loose r.records XP w s₀ mg mb s₁.heap → YP w s₁.heap → ∀ (a : Addr) (o : Obj) (pm cd doc dV kV : Value), s₁.heap.get? a = some o →
    o.data = .func { docDef d.name d.params d.body d.scope pm cd doc with defaults := dV, kwdefaults := kV } → s₁.heap.CodeRec cd d.name → Dflts mg s₁.heap d.params kwd dV kV → mg d.name = some (.ref a) → s₁.gens = #[] →
    ∀ (args : List WData) (vals : List Value) (as : List Addr), r.claim.pre args = true → WData.layableAll args = true → ReadsAllW r.records (classAt s₀.heap) s₁.heap vals args as → WellAll w.params s₁.heap vals args → (∀ a ∈ as, (a == sysModules) = false) →
      wpC (model r.prog w) callerA (run (.ref a) vals) (fun v s' => GoodWG r.claim (classAt s₀.heap) (ExcName.means s₀.heap) args s₁ (.ok (.ret v)) s')
        (fun e s' => GoodWG r.claim (classAt s₀.heap) (ExcName.means s₀.heap) args s₁ (.error e) s') s₁
theorem PySem.W.holds_open {r : OpenRow} {q : Program} {loose : List Str} {Xt : Shared → Bool} {XP : (Str → Option Value) → Heap → Prop} {α : Type} {Yf : Shared → α} {Ya : World → α} {YP : World → Heap → Prop} {d : DefRec} {kwd : List (Str × PySem.Expr)} {N : Nat}
    (left : LeftO r.prog q loose Xt Yf Ya N) (hY : ∀ w s, Yf s = Ya w → YP w s.heap) (hYk : ∀ w h h', YP w h → (∀ b o, h.get? b = some o → h'.get? b = some o) → YP w h')
    (hX : ∀ s, Xt s = true → XP (s.heap.nsMap mainGlobals) s.heap) (hXk : ∀ mg h h', XP mg h → (∀ b o, h.get? b = some o → h'.get? b = some o) → XP mg h')
    (hdef : defOf q r.name = some (d, kwd)) (hp : r.prog.theDef r.name = some (d.params, d.body, d.scope)) (hk : kwWritten? d.params.kwonlyargs d.params.kw_defaults = some kwd) (hRf : ∀ s, Xt s = true → RecFacts r.records s.heap) (hwr : (!r.writes || r.records.isEmpty) = true)
    (k1 : r.wellSaid = true) (ok : (chainsOk q && opensWell r.prog && (frees r.toRowW && r.within.isEmpty)) = true) (hb : r.prog.bare) (hw : r.toRowW.promised)
    (call : WalkC q loose XP YP r.toRowW d kwd fun f vs => PySem.call f vs) : r.Holds := by
  obtain ⟨ok, k5⟩ := Bool.and_eq_true_iff.mp ok
  obtain ⟨hch, o1⟩ := Bool.and_eq_true_iff.mp ok
  obtain ⟨k5, k6⟩ := Bool.and_eq_true_iff.mp k5
  obtain ⟨hsame, hu, ha, hap, hm⟩ := frees_parts k5
  have hwi : r.toRowW.claim.within = [] := List.isEmpty_iff.mp k6
  have hi := ident_freeW hu ha hap
  refine ⟨k1, hw, ⟨hb, o1, by show r.toRowW.makers.map _ = []; rw [hm]; rfl⟩, hw.witness, fun w => ⟨(left.behind hX hch w).1, fun s' hs' => ?_⟩⟩
  obtain ⟨s₀, hf, hg0, s, hT, hz, hgens, hg, G00, y⟩ := (left.behind (XP := fun mg h => XP mg h ∧ RecFacts r.records h) (fun s hs => ⟨hX s hs, hRf s hs⟩) hch w).2 s' hs'
  have G0 : Ground q loose [] XP w s (s.heap.nsMap mainGlobals) (s.heap.nsMap builtinsNs) s.heap := ⟨G00.T, G00.B, G00.D, G00.TE, G00.TD, G00.W, G00.X.1, G00.cls, G00.has, G00.apart, G00.once, G00.K⟩
  have RF := G00.X.2
  have hT' := hT
  refine ⟨s₀, hf, hg0, s, hT, (fun n hn => ?_), RF.1, RF.2.1, fun args hpre hlay ord hord => ?_⟩
  · obtain rfl : n = r.name := by split at hn <;> simp_all
    exact pinned_of_view hg G0 hdef hp hk
  have hgens : s.gens = #[] := Array.eq_empty_of_size_eq_zero (beq_iff_eq.mp hgens)
  have G : Ground q loose r.records XP w s _ _ s.heap := RF.ground G0
  obtain ⟨⟨vs, s₁⟩, hlaid⟩ := Option.isSome_iff_exists.mp (layAllW_isSome (P := w.params) (ord := ord) G.has args r.args s (pre_splitW hpre).1)
  have keeps := layAllW_keeps _ _ _ hlaid
  have hal := layAllW_rest _ _ _ hlaid
  obtain ⟨as, hrd, hin, hold⟩ := reads_layAllW hord _ _ _ hlaid hlay s₁.heap (fun _ _ e => e)
  have L : Laid r.records w s s₁ args vs as := ⟨⟨ord, hord, hlaid⟩, hrd, hin, hold, keeps, hal.1.trans hgens, hal.2.2.1⟩
  have G₁ := G.keeps hXk keeps
  obtain ⟨a, o, pm, cd, doc, dV, kV, h1, h2, h3, h4, h5⟩ := G₁.fn hdef
  have C := call w s s₁ _ _ G₁ (hYk _ _ _ (hY w s y) keeps) a o pm cd doc dV kV h2 h3 h4 h5 (defOf_name hdef ▸ h1) L.gens args vs as hpre hlay L.reads L.well (L.low G.low)
  have fin : ∀ (rs : Result) (sx : Shared), GoodWG r.toRowW.claim (classAt s.heap) (ExcName.means s.heap) args s₁ rs sx →
      (r.toRowW.claim.Ends s args vs s₁ rs sx ∧ sx.os = s.os ∧ (r.writes = true → namesKept r.prog r.keeps s.heap sx.heap ∧ ∀ x ∈ r.records, ∀ a, classAt s.heap x.1 = some a → recordClass sx.heap a x.1 (x.2.map (·.1)) = true)) ∧ leftWithCleanup sx.gens = false := fun rs sx g => by
    have z := g.laid (c := r.toRowW.claim) hsame hwi hi L
    exact ⟨⟨z.1, z.2.1, fun q => ⟨namesKept_of hT' hg _ keeps g.2.1.old, noTable hwr q⟩⟩, leftWithCleanup_false_of_bare z.2.2⟩
  have T := thread_endsC (prog := r.prog) (w := w) (s := s₁)
    (R := fun rs sx => r.toRowW.claim.Ends s args vs s₁ rs sx ∧ sx.os = s.os ∧ (r.writes = true → namesKept r.prog r.keeps s.heap sx.heap ∧ ∀ x ∈ r.records, ∀ a, classAt s.heap x.1 = some a → recordClass sx.heap a x.1 (x.2.map (·.1)) = true)) (t := do match ← nsGet mainNs r.name with
      | some f => do ret (← PySem.call f vs)
      | none => unsupported "claim.caller:no-such-global") (Shared.asleep_of_life hal.2.2.2 hz)
    (wpC_bind (wpC_nsGet G₁.T.g (by
      rw [h1]
      exact wpC_bindB (wpC_mono C (fun v sx g => wpAny_pure ⟨_, rfl, fin _ _ g⟩) fun e sx g => fin _ _ g))))
  obtain ⟨k, rs, se, sf, hrun, hsched, hfo, hcase, hos, hkp⟩ := T
  obtain ⟨eh, _, _, eo, _⟩ := Shared.forget_eq hfo
  have hcase := hcase.congr eh
  rw [← eh] at hkp
  rw [← eo] at hos
  have hlife : se.heap.life = s.heap.life := (runN_life _ _ _ hrun).trans hal.2.2.2
  refine ⟨vs, s₁, hlaid, k, _, se, hsched, ?_, (fun _ i x hx => by rw [hgens] at hx; simp at hx), hkp, by rw [hlife], Shared.rest_eq hos⟩
  rcases hcase with ⟨v, rfl, d1, d2, d3, d4, d5⟩ | ⟨e, ob, cls, rfl, d1, d2, d3, d4, d5⟩
  · exact .inl ⟨v, rfl, d1, d2, d3, fun b o y _ => d4 b o y, d5⟩
  · exact .inr ⟨e, ob, cls, rfl, d1, d2, d3, d4, fun b o y _ => d5 b o y⟩
theorem holdsA {r : OpenRow} {q : Program} {loose : List Str} {Xt : Shared → Bool} {XP : (Str → Option Value) → Heap → Prop} {α : Type} {Yf : Shared → α} {Ya : World → α} {YP : World → Heap → Prop} {d : DefRec} {kwd : List (Str × PySem.Expr)} {N : Nat}
    (hY : ∀ w s, Yf s = Ya w → YP w s.heap) (hYk : ∀ w h h', YP w h → (∀ b o, h.get? b = some o → h'.get? b = some o) → YP w h')
    (hX : ∀ s, Xt s = true → XP (s.heap.nsMap mainGlobals) s.heap) (hXk : ∀ mg h h', XP mg h → (∀ b o, h.get? b = some o → h'.get? b = some o) → XP mg h')
    (hdef : defOf q r.name = some (d, kwd)) (hp : r.prog.theDef r.name = some (d.params, d.body, d.scope)) (hk : kwWritten? d.params.kwonlyargs d.params.kw_defaults = some kwd) (hRf : ∀ s, Xt s = true → RecFacts r.records s.heap) (hwr : (!r.writes || r.records.isEmpty) = true)
    (k1 : r.wellSaid = true) (ok : (chainsOk q && opensWell r.prog && (frees r.toRowW && r.within.isEmpty)) = true) (hb : r.prog.bare) (hw : r.toRowW.promised)
    (call : LeftO r.prog q loose Xt Yf Ya N ∧ WalkC q loose XP YP r.toRowW d kwd fun f vs => PySem.call f vs) : r.Holds :=
  Mine.PySem.W.holds_open call.1 hY hYk hX hXk hdef hp hk hRf hwr k1 ok hb hw call.2
def hd.view_39 : Program := PySem.W.view (OpenRow.toRowW (OpenLaw.row PySem.Challenge.rw_nz0250_01)).prog [0, 2, 3, 5, 6, 7, 8, 9, 11, 12, 14, 15, 16, 17, 18, 19, 20, 22, 24, 25, 26, 28, 30, 31, 32, 33, 34, 35]
section
local macro_rules | `(tactic| o_law) => `(tactic| refine holds_law (by decide +kernel) fun said => ?_)
local macro_rules | `(tactic| o_head $H) => do
  let hw := Lean.mkIdent `hw
  let hc := Lean.mkIdent `hc
  `(tactic| refine holdsA (q := hd.view_39) (loose := [Str.ofString "Piece"]) (Xt := fun s => xlAt hd.view_39 [] s && recOk (RowW.records (OpenRow.toRowW (OpenLaw.row PySem.Challenge.rw_nz0250_01))) s) (XP := XL hd.view_39 []) (Yf := Hook.obs $H) (Ya := Hook.val $H) (YP := Hook.says $H) (N := 6530)
    (Hook.of $H) (Hook.keeps $H) (fun s e => xl_of s (Bool.and_eq_true_iff.mp e).1) XL.keeps (by rfl) (by rfl) (by rfl) (fun s e => recFacts_of (Bool.and_eq_true_iff.mp e).2) (by rfl) (by first | assumption | decide +kernel) (by decide +kernel) ⟨rfl, rfl, rfl, rfl, rfl, by decide +kernel⟩ ?$hw:ident ?$hc:ident)
set_option maxHeartbeats 8000000 in
open_top hd for PySem.Challenge.rw_nz0250_01
end
def wOf {A B C : Prop} (_ : A ∧ B → C) : Prop := B
local macro_rules | `(tactic| walk_at $s:str) => `(tactic| k_extra $s)


local macro_rules | `(tactic| k_mem) => `(tactic| assumption)
local macro_rules | `(tactic| k_all) => `(tactic| assumption)
theorem word_w1 : True := by
  k_with "binaryOp FloorDiv int int" => (refine floordiv_int ?kb ?_ (Or.inl (PyProof.noPylong_small ?kp)); (case kb => omega); (case kp => omega))
  trivial
theorem word_w2 : True := by
  k_with "call type:bytes" => (k_here; (with_reducible show wpAny _ _ (call (Value.type _) [Value.ref _]) _ _ _); k_dflt (refine' bytes_K ?F ?N ?l ?i ?r ?z ?h ?_; (case F => k_asm); (case N => k_asm); (case l => exact News.isList (by assumption) (by k_mem)); (case i => first | exact IntsAre.cons _ _ .nil | exact .cons _ _ (.cons _ _ .nil)); (case r => (intro n hn; simp only [List.mem_cons, List.not_mem_nil, or_false] at hn; (try simp only [Int.fdiv_eq_ediv_of_nonneg _ (by decide : (0 : Int) ≤ 256), Int.fmod_eq_emod_of_nonneg _ (by decide : (0 : Int) ≤ 256)] at hn); omega)); (case z => (simp only [sizeLine_eq, List.length_cons, List.length_nil]; decide)); (case h => with_unfolding_all rfl); k_whole); intro h' t' k' F' N' hB'; (revert h' t' k' F' N' hB'; intros); (try k_sweep))
  trivial


theorem fresh_base {prog : Program} {w : World} {A : Around} {E : Value → Shared → Prop} {s : Shared} {env : Env} {Q : Flow → Shared → Prop} (h : Q .next s) : wpAny (model prog w) A (execs [] env) Q E s := by
  w_top off
  first | (walk1; done) | (walk1; exact h) | exact wpAny_execs_nil h
section
section
variable {prog : Program} {w : World} {A : Around} {E : Value → Shared → Prop} {s : Shared} {h₀ : Heap} {L : Addr} {m : Str → Option Value} {news : List (Addr × Obj)}
theorem item_at {value slice : PySem.Expr} {l : Addr} {vs : List Value} {c : Nat} {k : Int} {u : Tok} {v : Value} {Q : Value → Shared → Prop}
    (N : News h₀ L s.heap news) (hm : (l, listOf vs.toArray c) ∈ news) (h0 : 0 ≤ k) (hhi : k < 2 ^ 63) (hx : vs[k.toNat]? = some v) (h : Q v s)
    (hs : subscripted slice false (.ref l) (.int k u) = operate [.ref l, .int k u] (getItem (.ref l) (.int k u)) := by with_unfolding_all rfl) :
    wpAny (model prog w) A (subscriptTail value slice (.ref l) (.int k u)) Q E s :=
  have hl : s.heap.IsList l vs.toArray := News.isList N hm
  tail_any hl.typeIs slot_list_getitem.lookup (wpAny_getItem_list hl h0 hhi (by simpa using hx) h) hs
end

theorem fdiv_nn {x t : Int} (h : 0 ≤ x) (ht : 0 < t) : 0 ≤ x.fdiv t := Int.fdiv_nonneg h (Int.le_of_lt ht)
theorem fdiv_le {x t : Int} (h : 0 ≤ x) (ht : 0 < t) : x.fdiv t ≤ x := by
  rw [Int.fdiv_eq_ediv_of_nonneg _ (Int.le_of_lt ht)]
  exact Int.ediv_le_self _ h

end
theorem off_base : True := by
  k_with "off_base" => skip
  trivial


theorem fresh_exc {prog : Program} {w : World} {A : Around} {E : Value → Shared → Prop} {s : Shared} {env : Env} {Q : Flow → Shared → Prop} (h : Q .next s) : wpAny (model prog w) A (execs [] env) Q E s := by
  w_top off
  first | (walk1; done) | (walk1; exact h) | exact wpAny_execs_nil h
section
/-! the two exception classes: made, their own __init__ run, raised, left through frames, caught -/
abbrev exBm : List Value := [.ref 60, .type "Exception", .type "BaseException", .type "object"]
theorem k85 (P : Params) : List.lookup 85 (hd.heap_1 P) = some (excClassObj (Str.ofString "TableError") (Str.ofString "TableError") 85 84 [.ref 60] exBm true [] [] false none none (some (.ref 76)) none (some (.str (Str.ofString "TableError") 280)) (some (.str (Str.ofString "TableError") 288)) (some (.bool true)) "Exception.__new__") := by kernel_rfl
theorem k73 (P : Params) : List.lookup 73 (hd.heap_1 P) = some (excClassObj (Str.ofString "SegmentError") (Str.ofString "SegmentError") 73 72 [.ref 60] exBm true [] [] false none none (some (.ref 64)) none (some (.str (Str.ofString "SegmentError") 264)) (some (.str (Str.ofString "SegmentError") 272)) (some (.bool true)) "Exception.__new__") := by kernel_rfl
theorem exBm_exc (C : Addr) : (Value.ref C :: exBm).contains (.type "Exception") = true := by rw [List.contains_cons, show exBm.contains (.type "Exception") = true from by decide +kernel, Bool.or_true]
theorem exBm_base (C : Addr) : (Value.ref C :: exBm).contains (.type "BaseException") = true := by rw [List.contains_cons, show exBm.contains (.type "BaseException") = true from by decide +kernel, Bool.or_true]
theorem exBm_attr (C : Addr) : (Value.ref C :: exBm).contains (.type "AttributeError") = false := by rw [List.contains_cons, show exBm.contains (.type "AttributeError") = false from by decide +kernel]; rfl
theorem exBm_name (C : Addr) : (Value.ref C :: exBm).contains (.type "NameError") = false := by rw [List.contains_cons, show exBm.contains (.type "NameError") = false from by decide +kernel]; rfl

section
variable {M : Model} {A : Around} {E : Value → Shared → Prop} {h : Heap} {g : Array GenState} {d : Drawn} {t : Nat} {os : OsState}
variable {nm q : Str} {C N : Addr} {bs : List Value} {hdct : Bool} {sn : List Str} {sub : List Value} {ab : Bool} {col : Option Bool} {dd : Option Addr} {k0 k1 k2 k3 k5 : Option Value}
theorem own_check_new {rest : List Value} {Q : Unit → Shared → Prop} (hC : h.get? C = some (excClassObj nm q C N bs exBm hdct sn sub ab col dd k0 k1 k2 k3 k5 "Exception.__new__"))
    (hq : Q () ⟨h, g, d, t, os⟩) : wpAny M A (checkBuiltinCall "Exception.__new__" ⟨.ref C :: rest, []⟩) Q E ⟨h, g, d, t, os⟩ := by
  have F := PySem.F.excBase_Exception
  have hcont := exBm_exc C
  have hstar := F.noStar
  simp only [checkBuiltinCall, F.newKind, F.newSplit, F.newRow]
  repeat (first | refine wpAny_loadPart_at hC ?_ | (refine wpAny_isSubtype_exc hC ?_; rw [hcont]) | refine wpAny_staticBase_exc hC ?_ | refine wpAny_madeBy_exc hC ?_ | simp only [bne_self_eq_false, Bool.false_eq_true, if_false] | wp_step)
  exact hq
end
section
variable {prog : Program} {w : World} {A : Around} {R : Result → Shared → Prop} {h : Heap} {g : Array GenState} {d : Drawn} {t : Nat} {os : OsState}
variable {nm q : Str} {C N : Addr} {bs : List Value} {hdct : Bool} {sn : List Str} {sub : List Value} {ab : Bool} {col : Option Bool} {dd : Option Addr} {k0 k1 k2 k3 k5 : Option Value}
theorem own_new {rest : List Value} (hC : h.get? C = some (excClassObj nm q C N bs exBm hdct sn sub ab col dd k0 k1 k2 k3 k5 "Exception.__new__"))
    (hq : R (.ok (.ret (.ref (h.objs.size + 1)))) ⟨(h.push { cls := .type "tuple", data := .seq rest.toArray }).push
      { cls := .ref C, data := .fields #[.ref h.objs.size, .none, .none, .none, .bool false, .none] }, g, d, t, os⟩) (hrest : rest.length ≤ sizeLine := by size_fits) :
    codeAny (model prog w) A (.builtin "Exception.__new__" ⟨.ref C :: rest, []⟩) R ⟨h, g, d, t, os⟩ := by
  have F := PySem.F.excBase_Exception
  have hends := F.ends
  have hcB := exBm_exc C
  have hcA := exBm_attr C
  have hcN := exBm_name C
  refine codeAny_builtinAt F.entry ?_
  unfold Builtin.«BaseException.__new__»
  refine PySem.wpAt_bind ?_
  show PySem.wpAt _ _ _ (stack >>= _) _ _ _
  refine PySem.wpAt_bind (PySem.wpAt_stack fun p below => PySem.wpAt_of_wpAny ?_)
  wp_walk
  refine PySem.wpAt_of_wpAny ?_
  rw [F.owner]
  repeat (first | with_reducible refine wpAny_madeHere_exc F.canon hC ?_ | with_reducible refine wpAny_loadPart_at hC ?_ | (with_reducible refine wpAny_isSubtype_exc hC ?_; first | rw [hcB] | rw [hcA] | rw [hcN]) | wp_step)
  show R _ _
  rw [Heap.size_push]
  exact hq

/-- the object of an exception as «__new__» lays it -/
abbrev excObj (C t : Addr) : Obj := { cls := .ref C, data := .fields #[.ref t, .none, .none, .none, .bool false, .none] }
abbrev tupO (vs : List Value) : Obj := { cls := .type "tuple", data := .seq vs.toArray }

theorem own_type_call {E : Value → Shared → Prop} {K : Frag} {fI : Addr} {rest : List Value} {Q : PySem.Fin → Shared → Prop} (X : K.In h)
    (hC : h.get? C = some (excClassObj nm q C N bs exBm hdct sn sub ab col dd k0 k1 k2 k3 k5 "Exception.__new__"))
    (hi : findIn K (.ref C) "__init__" = some (some (.ref fI))) (hf : typeIn K (.ref fI) = some (.type "function"))
    (hq : codeAny (model prog w) A (.call (.ref fI) ⟨.ref (h.objs.size + 1) :: rest, []⟩) (fun r s' => match r with | .ok (.ret v) => v = .none ∧ Q (.done (.ret (.ref (h.objs.size + 1)))) s' | .ok _ => False | .error e => E e s')
      ⟨(h.push (tupO rest)).push (excObj C h.objs.size), g, d, t, os⟩) (hrest : rest.length ≤ sizeLine := by size_fits) :
    wpAny (model prog w) A (Builtin.«type.__call__» ⟨.ref C :: rest, []⟩) Q E ⟨h, g, d, t, os⟩ := by
  have F := PySem.F.excBase_Exception
  repeat (first | with_reducible refine wpAny_loadPart_at hC ?_ | with_reducible refine wpAny_madeBy_exc hC ?_ | wp_step)
  refine codeAny_call_builtin_code (Code.quiet_builtin _ F.quiet) (own_check_new hC ?_)
  refine own_new hC ?_ hrest
  show wpAny _ _ _ _ _ _
  have hC₁ := Heap.get?_push_of_some (excObj C h.objs.size) (Heap.get?_push_of_some (tupO rest) hC)
  have X₁ : K.In ((h.push (tupO rest)).push (excObj C h.objs.size)) := X.keeps fun b o e => Heap.get?_push_of_some _ (Heap.get?_push_of_some _ e)
  have hget : ((h.push (tupO rest)).push (excObj C h.objs.size)).get? (h.objs.size + 1) = some (excObj C h.objs.size) := by heap_get
  have hcC : (Value.ref C :: exBm).contains (.ref C) = true := by simp
  unfold isInstance
  repeat (first | with_reducible refine wpAny_loadPart_at hget ?_ | (with_reducible refine wpAny_isSubtype_exc hC₁ ?_; rw [hcC]) | wp_step)
  refine (looks_findIn X₁ hi).at (wpAny_holding (wpAny_bind ((bind_fn X₁ _ hf).at (wpAny_bind (wpAny_call (codeAny_mono hq fun r s' z => ?_))))))
  rcases r with e | (v | _ | _ | _) <;> first | exact z | exact z.elim | skip
  obtain ⟨rfl, z⟩ := z
  exact wpAny_pure (wpAny_pure z)

theorem own_call {E : Value → Shared → Prop} {K : Frag} {fI : Addr} {rest : List Value} {Q : Value → Shared → Prop} (X : K.In h)
    (hC : h.get? C = some (excClassObj nm q C N bs exBm hdct sn sub ab col dd k0 k1 k2 k3 k5 "Exception.__new__"))
    (hi : findIn K (.ref C) "__init__" = some (some (.ref fI))) (hf : typeIn K (.ref fI) = some (.type "function"))
    (hq : codeAny (model prog w) (A.under (.builtin "type.__call__" ⟨.ref C :: rest, []⟩)) (.call (.ref fI) ⟨.ref (h.objs.size + 1) :: rest, []⟩) (fun r s' => match r with | .ok (.ret v) => v = .none ∧ Q (.ref (h.objs.size + 1)) s' | .ok _ => False | .error e => E e s')
      ⟨(h.push (tupO rest)).push (excObj C h.objs.size), g, d, t, os⟩) (hrest : rest.length ≤ sizeLine := by size_fits) :
    wpAny (model prog w) A (call (.ref C) rest) Q E ⟨h, g, d, t, os⟩ := by
  have f1 := tc_lookup
  have f2 := tc_bind (.ref C)
  have hT : (⟨h, g, d, t, os⟩ : Shared).TypeIs (.ref C) "type" := ⟨_, hC, rfl⟩
  refine wpAny_call (codeAny_of_tree ?_)
  show wpAny _ _ (callAny (.ref C) _) _ _ _
  repeat (any_goals (first | assumption | with_reducible refine wpAny_loadPart_at hC ?_ | wp_step))
  refine ⟨rfl, ?_⟩
  refine codeAny_call_builtin_at (Code.quiet_builtin _ (by decide +kernel)) entry_typeCall (wpAny_check_type_call_sub hC (own_type_call (hrest := hrest) X hC hi hf ?_))
  exact codeAny_mono hq fun r s' z => by
    rcases r with e | (v | _ | _ | _) <;> first | exact z | exact z.elim
end

section
variable {prog : Program} {w : World} {A : Around} {E : Value → Shared → Prop} {s : Shared} {env : Env}
variable {nm q : Str} {C N : Addr} {bs : List Value} {hdct : Bool} {sn : List Str} {sub : List Value} {ab : Bool} {col : Option Bool} {dd : Option Addr} {k0 k1 k2 k3 k5 : Option Value}
theorem own_raiseStmt {s : Shared} {x : Sem Value} {Q : Flow → Shared → Prop} (hh : A.handled = none)
    (h : wpAny (model prog w) A x (fun v s₁ => ∃ e t dc, v = .ref e ∧ s₁.heap.get? C = some (excClassObj nm q C N bs exBm hdct sn sub ab col dd k0 k1 k2 k3 k5 "Exception.__new__") ∧
      s₁.heap.get? e = some { cls := .ref C, dict := dc, data := .fields #[.ref t, .none, .none, .none, .bool false, .none] } ∧ E (.ref e) s₁) E s) :
    wpAny (model prog w) A (raiseStmt env (some x) none) Q E s := by
  have hcB := exBm_base C
  unfold raiseStmt
  refine wpAny_bind (wpAny_mono h (fun v s₁ h₁ => ?_) fun _ _ x => x)
  obtain ⟨e, t, dc, rfl, hC, he, hE⟩ := h₁
  obtain ⟨hp, g, d, tk, os⟩ := s₁
  repeat (first | with_reducible refine wpAny_loadPart_at he ?_ | with_reducible refine wpAny_loadPart_at hC ?_ | (with_reducible refine wpAny_isSubtype_exc hC ?_; rw [hcB]) | wp_step)
  exact wpAny_raiseNew_none hh hE

/-- «raise C(..)» of a class with its own __init__ -/
theorem own_raise {K : Frag} {fI : Addr} {x : Str} {np cpos pos : Pos} {args : List PySem.Expr} {Q : Flow → Shared → Prop}
    (hh : A.handled = none) (hplain : (backTo cpos (starEach args env)).any (·.1) = false)
    (hi : findIn K (.ref C) "__init__" = some (some (.ref fI))) (hf : typeIn K (.ref fI) = some (.type "function"))
    (h : wpAny (model prog w) A (eval (.Name x np) env) (fun f s₁ => f = .ref C ∧ wpAny (model prog w) A (evalArgs (.ref C) true (backTo cpos (starEach args env)) [])
      (fun a s₂ => a.kw = [] ∧ a.pos.length ≤ sizeLine ∧ s₂.heap.get? C = some (excClassObj nm q C N bs exBm hdct sn sub ab col dd k0 k1 k2 k3 k5 "Exception.__new__") ∧ K.In s₂.heap ∧
        codeAny (model prog w) (A.under (.builtin "type.__call__" ⟨.ref C :: a.pos, []⟩)) (.call (.ref fI) ⟨.ref (s₂.heap.objs.size + 1) :: a.pos, []⟩)
          (fun r s' => match r with
            | .ok (.ret v) => v = .none ∧ s'.heap.get? C = some (excClassObj nm q C N bs exBm hdct sn sub ab col dd k0 k1 k2 k3 k5 "Exception.__new__") ∧
                (∃ t dc, s'.heap.get? (s₂.heap.objs.size + 1) = some { cls := .ref C, dict := dc, data := .fields #[.ref t, .none, .none, .none, .bool false, .none] }) ∧ E (.ref (s₂.heap.objs.size + 1)) s'
            | .ok _ => False | .error e => E e s')
          { s₂ with heap := (s₂.heap.push (tupO a.pos)).push (excObj C s₂.heap.objs.size) }) E s₁) E s) :
    wpAny (model prog w) A (exec (.Raise (some (.Call (.Name x np) args [] cpos)) none pos) env) Q E s := by
  rw [arm_exec_Raise]
  refine wpAny_bind (wpAny_standAt (own_raiseStmt (C := C) (nm := nm) (q := q) (N := N) (bs := bs) (hdct := hdct) (sn := sn) (sub := sub) (ab := ab) (col := col) (dd := dd) (k0 := k0) (k1 := k1) (k2 := k2) (k3 := k3) (k5 := k5) hh (wpAny_bind (wpAny_mono (wpAny_Call_ofName (wpAny_mono h (fun f s₁ h₁ => ?_) fun _ _ x => x)) (fun v s₃ h₃ => wpAny_bind (wpAny_standAt (wpAny_pure h₃))) fun _ _ x => x))))
  obtain ⟨rfl, h₁⟩ := h₁
  unfold callWith
  refine wpAny_bind (wpAny_holding (wpAny_mono h₁ (fun a s₂ h₂ => wpAny_bind (wpAny_standAt ?_)) fun _ _ x => x))
  obtain ⟨apos, akw⟩ := a
  obtain ⟨hkw, hlen, hC, X, h₂⟩ := h₂
  obtain rfl : akw = [] := hkw
  obtain ⟨hp, g, d, tk, os⟩ := s₂
  simp only [hplain]
  refine wpAny_bind (wpAny_keeperOf_exc hC ?_)
  refine wpAny_bind (own_call (hrest := hlen) X hC hi hf (codeAny_mono h₂ fun r s' z => ?_))
  rcases r with e | (v | _ | _ | _) <;> first | exact z | exact z.elim | skip
  obtain ⟨rfl, hC', ⟨t, dc, he⟩, hE⟩ := z
  exact ⟨rfl, wpAny_bind (wpAny_holding (wpAny_point (wpAny_pure ⟨_, t, dc, rfl, hC', he, hE⟩)))⟩
end

theorem mt_exc : typeOf (.type "Exception") = pure (.type "type") := by kernel_rfl
theorem stub_exc : Manifest.isStub "Exception" = false := by decide +kernel
theorem refuse_exc (self : Value) (C : Addr) : refuseLoop self "__setattr__" (.ref C :: exBm) = pure () := by
  rw [refuseLoop_ref, refuseLoop_ref]; kernel_rfl
section
variable {prog : Program} {w : World} {A : Around} {E : Value → Shared → Prop} {h : Heap} {g : Array GenState} {d : Drawn} {t : Nat} {os : OsState}
variable {nm q : Str} {C N e : Addr} {bs : List Value} {sn : List Str} {sub : List Value} {ab : Bool} {col : Option Bool} {dd : Option Addr} {k0 k1 k2 k3 k5 : Option Value}
theorem own_check_init {rest : List Value} {oe : Obj} {Q : Unit → Shared → Prop} (hC : h.get? C = some (excClassObj nm q C N bs exBm true sn sub ab col dd k0 k1 k2 k3 k5 "Exception.__new__")) (he : h.get? e = some oe) (hcls : oe.cls = .ref C)
    (hq : Q () ⟨h, g, d, t, os⟩) : wpAny (model prog w) A (checkBuiltinCall "Exception.__init__" ⟨.ref e :: rest, []⟩) Q E ⟨h, g, d, t, os⟩ := by
  have F := PySem.F.excBase_Exception
  have hcB := exBm_exc C
  have hshort := F.noStar
  simp only [checkBuiltinCall, F.initKind, F.initSplit, F.initRow]
  repeat (first | (with_reducible refine wpAny_loadPart_at he ?_; rw [hcls]) | with_reducible refine wpAny_loadPart_at hC ?_ | (with_reducible refine wpAny_isSubtype_exc hC ?_; rw [hcB]) | wp_step)
  refine wpAny_onRaise ?_
  rw [show ∀ (a b : String) (n : Nat), Bind.check ⟨.positional, "*", "Exception", .self, [⟨"args", .varPos, false⟩]⟩ a b n (List.map (fun x => x.fst) ({ pos := Value.ref e :: rest } : Args).kw) = pure () from
    fun a b n => check_star_args _ _ _ _ _ _]
  exact wpAny_pure hq

theorem own_init_call {rest : List Value} {ob : Obj} {vs : Array Value} {t0 : Addr} {Q : Value → Shared → Prop} (hC : h.get? C = some (excClassObj nm q C N bs exBm true sn sub ab col dd k0 k1 k2 k3 k5 "Exception.__new__")) (he : h.get? e = some ob) (hcls : ob.cls = .ref C) (hd : ob.data = .fields vs) (h0 : vs[0]? = some (.ref t0))
    (hq : Q .none ⟨(h.push { cls := .type "tuple", data := .seq rest.toArray }).update e (Obj.mapFields (·.setIfInBounds 0 (.ref h.objs.size))), g, d, t, os⟩) (hrest : rest.length ≤ sizeLine := by size_fits) :
    wpAny (model prog w) A (call (.builtin "Exception.__init__") (.ref e :: rest)) Q E ⟨h, g, d, t, os⟩ := by
  have F := PySem.F.excBase_Exception
  refine wpAny_call (codeAny_call_builtin F.init.plain F.initEntry (own_check_init hC he hcls ?_))
  unfold Builtin.«BaseException.__init__»
  dsimp only
  rw [if_neg (by simp)]
  unfold newTuple Builtin.BaseException.bexcPut
  have hsz : 0 < vs.size := (Array.getElem?_eq_some_iff.mp h0).1
  have he₁ := Heap.get?_push_of_some (h := h) { cls := .type "tuple", data := .seq rest.toArray } he
  refine wpAny_bind (wpAny_newObj_type (s := ⟨h, g, d, t, os⟩) (wpAny_bind (wpAny_bind (wpAny_field he₁ hd h0 (wpAny_bind (wpAny_setField he₁ hd hsz ?_))))) (by show rest.toArray.size ≤ sizeLine; rw [List.size_toArray]; exact hrest))
  exact wpAny_letGo (wpAny_pure hq)

theorem own_setAttr {K : Frag} {vs : Array Value} {name : Str} {v : Value} {Q : Unit → Shared → Prop} (X : K.In h) (hC : h.get? C = some (excClassObj nm q C N bs exBm true sn sub ab col dd k0 k1 k2 k3 k5 "Exception.__new__"))
    (hs : findIn K (.ref C) "__setattr__" = some (some (.builtin "object.__setattr__"))) (hm : mroIn K C (.type "object") = some true) (hn : findIn K (.ref C) name = some none)
    (he : h.get? e = some { cls := .ref C, data := .fields vs })
    (hq : ∀ h' tk' dx, (∀ b o, b ≠ e → h.get? b = some o → h'.get? b = some o) → h'.get? e = some { cls := .ref C, dict := some dx, data := .fields vs } → Q () ⟨h', g, d, tk', os⟩) :
    wpAny (model prog w) A (setAttr (.ref e) name v) Q E ⟨h, g, d, t, os⟩ := by
  have SF := PySem.F.store_object
  have I : InstAt h e { cls := .ref C, data := .fields vs } C none := ⟨he, rfl, rfl, trivial⟩
  refine set_plain (s := ⟨h, g, d, t, os⟩) X I hs ?_
  have sub : Looks (model prog w) h (isInstance (.ref e) (.type "object")) true := I.type.andThen (looks_mroIn X hm)
  refine codeAny_call_builtin SF.slot.plain SF.entry (@check_slot (model prog w) _ _ ⟨h, g, d, t + 1, os⟩ "object.__setattr__" "object" "__setattr__" (.ref e) [.str name t, v] [] _ SF.kind SF.split sub (SF.args (.ref e) (.str name t) v) ?_)
  rw [osa_eq, refuse_eq]
  have hmro : Looks (model prog w) h (mroOf (.ref C)) (.ref C :: exBm) := ((Looks.ld (part := none) hC).andThen .now).andThen .now
  refine wpAny_bind (wpAny_bind (I.type.at (wpAny_bind (hmro.at ?_))))
  rw [refuse_exc]
  refine wpAny_pure (wpAny_bind (I.type.at (wpAny_bind ((looks_findIn X hn).at (wpAny_bind (wpAny_pure (a := none) ?_))))))
  have hes : e ≠ h.objs.size := Nat.ne_of_lt (Heap.lt_size he)
  have he₁ : (h.push { cls := .type "dict", data := .dict #[] }).get? e = some { cls := .ref C, data := .fields vs } := Heap.get?_push_of_some _ he
  unfold Builtin.ObjectAttr.storeInOwnDict Builtin.ObjectAttr.ownDictForStores
  repeat ((fail_if_success with_reducible show wpAny _ _ (Builtin.ObjectAttr.storeInDict _ _ _ _) _ _ _); first | with_reducible refine wpAny_loadPart_at he ?_ | with_reducible refine wpAny_loadPart_at hC ?_ | wp_step)
  have hgd : ((h.push { cls := .type "dict", data := .dict #[] }).update e fun o => { o with dict := some h.objs.size }).get? h.objs.size = some { cls := .type "dict", data := .dict #[] } :=
    (Heap.get?_update_ne _ _ _ _ hes.symm).trans (Heap.get?_push_at rfl rfl)
  have hge : ((h.push { cls := .type "dict", data := .dict #[] }).update e fun o => { o with dict := some h.objs.size }).get? e = some { cls := .ref C, dict := some h.objs.size, data := .fields vs } :=
    Heap.get?_update_self _ he₁ rfl
  have hnd : ((h.push { cls := .type "dict", data := .dict #[] }).update e fun o => { o with dict := some h.objs.size }).Ns h.objs.size (fun _ => none) :=
    ⟨_, #[], _, hgd, rfl, fun e he => absurd he (by simp), fun _ => rfl⟩
  unfold Builtin.ObjectAttr.storeInDict Builtin.ObjectAttr.newKeyGuard
  refine wpAny_bind (wpAny_pure (wpAny_bind (wpAny_nsSet1 (Heap.Ns1.of_empty hnd) fun h' hn' hs => ?_)))
  obtain ⟨oD, esD, epD, hoD, hdD, hcD⟩ := hn'.count (Within.cons name v Within.nil)
  refine wpAny_bind (wpAny_lookBehind hoD (by rw [hdD]; exact pastItsLine_dict (Nat.le_trans hcD (by rw [List.length_cons, List.length_nil, sizeLine_eq]; omega))) ?_)
  refine wpAny_pure (hq h' _ h.objs.size (fun b o hb hbo => ?_) ((hs.2 e hes).trans hge))
  exact (hs.2 b (Nat.ne_of_lt (Heap.lt_size hbo))).trans ((Heap.get?_update_ne _ _ _ _ hb).trans (Heap.get?_push_of_some _ hbo))
end

end
theorem off_exc : True := by
  k_with "off_exc" => skip
  trivial


theorem fresh_exc2 {prog : Program} {w : World} {A : Around} {E : Value → Shared → Prop} {s : Shared} {env : Env} {Q : Flow → Shared → Prop} (h : Q .next s) : wpAny (model prog w) A (execs [] env) Q E s := by
  w_top off
  first | (walk1; done) | (walk1; exact h) | exact wpAny_execs_nil h
section
section
variable {prog : Program} {w : World} {A : Around} {E : Value → Shared → Prop} {s : Shared} {h₀ : Heap} {L : Addr} {m : Str → Option Value} {news : List (Addr × Obj)} {e t0 : Addr} {K : Frag}
variable {nm q : Str} {C N : Addr} {bs : List Value} {sn : List Str} {sub : List Value} {ab : Bool} {col : Option Bool} {dd : Option Addr} {k0 k1 k2 k3 k5 : Option Value}
theorem exc_upd {o o' : Obj} {h h' : Heap} (F : Fr h₀ L h m) (N : News h₀ L h ((e, o) :: news)) (hne : ∀ p ∈ news, p.1 ≠ e) (hk : ∀ b x, b ≠ e → h.get? b = some x → h'.get? b = some x) (he : h'.get? e = some o') :
    Fr h₀ L h' m ∧ News h₀ L h' ((e, o') :: news) := by
  have z := N (e, o) (.head _)
  obtain ⟨oL, a1, a2, hL, a3⟩ := F.ns
  refine ⟨⟨⟨oL, a1, a2, hk L oL z.2.1.symm hL, a3⟩, fun b x q => hk b x (fun y => by subst y; have := z.2.2; rw [q] at this; cases this) (F.keep b x q), F.above⟩, fun p hp => ?_⟩
  rcases List.mem_cons.mp hp with rfl | hp
  · exact ⟨he, z.2⟩
  · have y := N p (.tail _ hp)
    exact ⟨hk _ _ (hne p hp) y.1, y.2⟩
theorem exc_init_K {rest : List Value} {Q : Value → Shared → Prop} (hC : K.lookup C = some (excClassObj nm q C N bs exBm true sn sub ab col dd k0 k1 k2 k3 k5 "Exception.__new__")) (F : Fr h₀ L s.heap m) (X₀ : K.In h₀) (Nw : News h₀ L s.heap ((e, excObj C t0) :: news)) (hne : ∀ p ∈ news, p.1 ≠ e)
    (h : ∀ h' t', Fr h₀ L h' m → News h₀ L h' ((e, excObj C t') :: news) → Q .none { s with heap := h' }) (hrest : rest.length ≤ sizeLine := by size_fits) :
    wpAny (model prog w) A (call (.builtin "Exception.__init__") (.ref e :: rest)) Q E s := by
  obtain ⟨hp, g, d, t, os⟩ := s
  have he := (Nw (e, excObj C t0) (.head _)).1
  refine own_init_call (hrest := hrest) ((X₀.keeps F.keep) _ _ hC) he rfl rfl rfl ?_
  obtain ⟨F', N'⟩ := exc_upd (o' := excObj C hp.objs.size) F Nw hne (h' := (hp.push { cls := .type "tuple", data := .seq rest.toArray }).update e (Obj.mapFields (·.setIfInBounds 0 (.ref hp.objs.size))))
    (fun b x hb hx => (Heap.get?_update_ne _ _ _ _ hb).trans (Heap.get?_push_of_some _ hx)) (Heap.get?_update_self _ (Heap.get?_push_of_some _ he) rfl)
  exact h _ _ F' N'
theorem exc_set_K {name : Str} {v : Value} {Q : Unit → Shared → Prop} (hC : K.lookup C = some (excClassObj nm q C N bs exBm true sn sub ab col dd k0 k1 k2 k3 k5 "Exception.__new__")) (F : Fr h₀ L s.heap m) (X₀ : K.In h₀) (Nw : News h₀ L s.heap ((e, excObj C t0) :: news)) (hne : ∀ p ∈ news, p.1 ≠ e)
    (hs : findIn K (.ref C) "__setattr__" = some (some (.builtin "object.__setattr__"))) (hm : mroIn K C (.type "object") = some true) (hn : findIn K (.ref C) name = some none)
    (h : ∀ h' tk' dx, Fr h₀ L h' m → News h₀ L h' ((e, ({ cls := .ref C, dict := some dx, data := .fields #[.ref t0, .none, .none, .none, .bool false, .none] } : Obj)) :: news) → Q () { s with heap := h', toks := tk' }) :
    wpAny (model prog w) A (setAttr (.ref e) name v) Q E s := by
  obtain ⟨hp, g, d, t, os⟩ := s
  have he := (Nw (e, excObj C t0) (.head _)).1
  refine own_setAttr (X₀.keeps F.keep) ((X₀.keeps F.keep) _ _ hC) hs hm hn he fun h' tk' dx hk he' => ?_
  obtain ⟨F', N'⟩ := exc_upd F Nw hne hk he'
  exact h h' tk' dx F' N'
end


end
theorem off_exc2 : True := by
  k_with "off_exc2" => skip
  trivial


theorem fresh_flew {prog : Program} {w : World} {A : Around} {E : Value → Shared → Prop} {s : Shared} {env : Env} {Q : Flow → Shared → Prop} (h : Q .next s) : wpAny (model prog w) A (execs [] env) Q E s := by
  w_top off
  first | (walk1; done) | (walk1; exact h) | exact wpAny_execs_nil h
section
/-! an exception in flight: all of h but the frames' own slots stands -/
def Flew (h : Heap) (l : List Env) (e C : Addr) (h' : Heap) : Prop :=
  ∃ B a0, (∀ b o, h.get? b = some o → b ∉ l.filterMap (·.frame) → B.get? b = some o) ∧ Heap.FlyingW B l e (.ref C) a0 h' ∧ h.UpToSlots h'
section
variable {M : Model} {A : Around} {E : Value → Shared → Prop} {s' : Shared} {base g h : Heap} {l : List Env} {L a e C : Addr} {m : Str → Option Value} {name : Str} {scope : Scope} {cd : Value} {Q : Unit → Shared → Prop}
theorem flew_mono {h' : Heap} (k : ∀ b o, g.get? b = some o → h.get? b = some o) (x : Flew h l e C h') : Flew g l e C h' := by
  obtain ⟨B, a0, hB, hf, hu⟩ := x
  exact ⟨B, a0, fun b o q n => hB b o (k b o q) n, hf, (Heap.UpToSlots.of_keeps k).trans hu⟩
theorem flew_first {ob : Obj} {vs : Array Value} {a0 : Value} (K : Below A base l g) (F : Fr g L h m) (hk : ∀ b o, h.get? b = some o → s'.heap.get? b = some o) (hn : h.get? e = none)
    (he : s'.heap.get? e = some ob) (hc : ob.cls = .ref C) (hd : ob.data = .fields vs) (h1 : vs[1]? = some .none) (h0 : vs[0]? = some a0)
    (hQ : ∀ h', Flew g l e C h' → Q () { s' with heap := h' }) (hkd : scope.kind = .function := by rfl) :
    wpAny M (A.deeper (envOf name scope L a cd)) (leaving (envOf name scope L a cd) (.ref e)) Q E s' := by
  have K' := K.push (name := name) (a := a) (cd := cd) F hkd
  have hin : ∀ env ∈ (envOf name scope L a cd :: l), ∀ b, env.frame = some b → b ∈ (envOf name scope L a cd :: l).filterMap (·.frame) := fun env he b hb => List.mem_filterMap.mpr ⟨env, he, hb⟩
  have hen : (hideAll h ((envOf name scope L a cd :: l).filterMap (·.frame))).get? e = none := by
    cases q : (hideAll h ((envOf name scope L a cd :: l).filterMap (·.frame))).get? e with
    | none => rfl
    | some o => have := of_hideAll _ q; rw [hn] at this; cases this
  refine wpAny_leaving_firstW (a0 := a0) K'.stack ((funFrames_hide K'.frames hin).of_keeps fun b o hb _ => ⟨o, hk b o hb, rfl⟩) rfl he (fun b o hb => hk b o (of_hideAll _ hb)) hen hd h1 h0 fun h' hL => ?_
  obtain ⟨k1, ⟨_, _, k2⟩, k3, k4⟩ := hL
  refine hQ h' ⟨_, a0, fun b o q nmem => hideAll_get _ (F.keep b o q) fun hm => ?_, ⟨k1, hen, k2, by rw [← hc]; exact k3⟩, ((Heap.UpToSlots.of_keeps F.keep).trans (Heap.UpToSlots.of_keeps hk)).trans k4⟩
  rcases kts_mem hm with z | z
  · rw [z, kts_self F] at q; cases q
  · exact nmem z
theorem flew_next (K : Below A base l g) (F : Fr g L h m) (x : Flew h (envOf name scope L a cd :: l) e C s'.heap) (hQ : ∀ h', Flew g l e C h' → Q () { s' with heap := h' }) :
    wpAny M (A.deeper (envOf name scope L a cd)) (leaving (envOf name scope L a cd) (.ref e)) Q E s' := by
  obtain ⟨B, a0, hB, hfl, hu⟩ := x
  refine wpAny_leaves_onW (Around.frames_deeper K.stack) rfl hfl fun h' x1 x2 => hQ h' ⟨B, a0, fun b o q nmem => hB b o (F.keep b o q) fun hm => ?_, x1, (Heap.UpToSlots.of_keeps F.keep).trans (hu.trans x2)⟩
  rcases kts_mem hm with z | z
  · rw [z, kts_self F] at q; cases q
  · exact nmem z
end

section
variable {prog : Program} {w : World} {A₀ A : Around} {s : Shared} {base h₀ : Heap} {outer : List Env} {L : Addr} {m : Str → Option Value} {env : Env} {K : Frag} {p : Program} {loose : List Str} {mean : ExcName → Option Value} {mg mb : Str → Option Value}
  {R : Result → Shared → Prop} {name qual : Str} {params : Arguments} {body : List Stmt} {scope : Scope} {dV kV doc pm cdv ct oc : Value} {an od : Option Addr} {osl : Array (Option Value)} {f : Addr} {args : Args} {binds : List (Str × Value)}
/-- a call: the callee's ground is the caller's whole heap, but for the entries of a ledger that it may change -/
theorem enter (B : Below A₀ base outer h₀) (F : Fr h₀ L s.heap m) (X₀ : K.In h₀) (T : Top p loose mean mg mb h₀) (hA : A.frames = some (env :: outer)) (hf : env.frame = some L) (hke : env.scope.kind = .function)
    (news : List (Addr × Obj)) (N : News h₀ L s.heap news)
    (ho : K.lookup f = some ⟨oc, od, .func (fnOf name qual params body scope dV kV doc pm an cdv ct), osl⟩) (hcd : codeIn K cdv qual = true) (hroom : A.depth < recursionLimit)
    (hbind : BindsTo s (fnOf name qual params body scope dV kV doc pm an cdv ct) args binds) (hloc : ∀ y ∈ binds, scope.names.lookup y.1 = some .local)
    (h : ∀ g L' h₁, g = hideAll s.heap (news.map (·.1)) → Fr g L' h₁ (fun y => binds.reverse.lookup y) → News g L' h₁ news → (∀ p ∈ news, p.1 < L') → Below A base (env :: outer) g → K.In g → Top p loose mean mg mb g →
      wpAny (model prog w) (A.deeper (envOf qual scope L' f cdv)) (execs body (envOf qual scope L' f cdv))
        (fun fl s' => R (.ok (.ret (match fl with | .ret v => v | _ => .none))) s')
        (fun e s' => wpAny (model prog w) (A.deeper (envOf qual scope L' f cdv)) (leaving (envOf qual scope L' f cdv) e) (fun _ s'' => R (.error e) s'') (fun e' s'' => R (.error e') s'') s')
        { s with heap := h₁, toks := s.toks + binds.length })
    (hco : scope.isCoroutine = false) (hgen : scope.isGenerator = false) (hk : scope.kind = .function)
    (hcell : ∀ x ∈ scope.names, x.2 ≠ .cell) : codeAny (model prog w) A (.call (.ref f) args) R s := by
  obtain ⟨FG, BG, st, lv⟩ := groundX (R := R) B F N hA hf hke
  refine codeAny_call_def (fd := fnX name qual params body scope [] dV kV doc pm an cdv ct) (body := body) (binds := binds) hroom ((X₀.keeps F.keep) _ _ ho) rfl (T.nolimit.keeps F.keep) (codeRec_of (X₀.keeps F.keep) hcd) rfl hbind hcell hloc (fun h₁ hns hk₁ => ?_) hco hgen hk
  exact h _ s.heap.objs.size h₁ rfl ⟨hns, fun b o e => hk₁ b o (of_hideAll _ e), Nat.le_of_eq (hideAll_size _ _)⟩
    (fun p hp => ⟨hk₁ _ _ (N p hp).1, Nat.ne_of_lt (Heap.lt_size (N p hp).1), hideAll_none _ (List.mem_map_of_mem hp)⟩) (fun p hp => Heap.lt_size (N p hp).1) BG (X₀.keeps st) (T.keeps st)
theorem enter0 (B : Below A₀ base outer h₀) (F : Fr h₀ L s.heap m) (X₀ : K.In h₀) (T : Top p loose mean mg mb h₀) (hA : A.frames = some (env :: outer)) (hf : env.frame = some L) (hke : env.scope.kind = .function)
    (ho : K.lookup f = some ⟨oc, od, .func (fnOf name qual params body scope dV kV doc pm an cdv ct), osl⟩) (hcd : codeIn K cdv qual = true) (hroom : A.depth < recursionLimit)
    (hbind : BindsTo s (fnOf name qual params body scope dV kV doc pm an cdv ct) args binds) (hloc : ∀ y ∈ binds, scope.names.lookup y.1 = some .local)
    (h : ∀ L' h₁, Fr s.heap L' h₁ (fun y => binds.reverse.lookup y) → News s.heap L' h₁ [] → Below A base (env :: outer) s.heap → K.In s.heap → Top p loose mean mg mb s.heap →
      wpAny (model prog w) (A.deeper (envOf qual scope L' f cdv)) (execs body (envOf qual scope L' f cdv))
        (fun fl s' => R (.ok (.ret (match fl with | .ret v => v | _ => .none))) s')
        (fun e s' => wpAny (model prog w) (A.deeper (envOf qual scope L' f cdv)) (leaving (envOf qual scope L' f cdv) e) (fun _ s'' => R (.error e) s'') (fun e' s'' => R (.error e') s'') s')
        { s with heap := h₁, toks := s.toks + binds.length })
    (hco : scope.isCoroutine = false) (hgen : scope.isGenerator = false) (hk : scope.kind = .function)
    (hcell : ∀ x ∈ scope.names, x.2 ≠ .cell) : codeAny (model prog w) A (.call (.ref f) args) R s :=
  enter B F X₀ T hA hf hke [] News.nil ho hcd hroom hbind hloc (fun g L' h₁ hg F' N' _ B' X' T' => by cases hg; exact h L' h₁ F' N' B' X' T') hco hgen hk hcell
end
theorem hide1 {h g : Heap} {D : Addr} {o : Obj} (hg : g = hideAll h ([(D, o)].map (·.1))) : ∀ b x, b ≠ D → h.get? b = some x → g.get? b = some x := fun b x hb e => by
  rw [hg]; exact hideAll_get _ e (by simpa using hb)
theorem news1 {h₀ h : Heap} {L D : Addr} {o : Obj} (h1 : h.get? D = some o) (h2 : D ≠ L) (h3 : h₀.get? D = none) : News h₀ L h [(D, o)] := fun p hp => by
  rw [List.mem_singleton.mp hp]; exact ⟨h1, h2, h3⟩

end
theorem off_flew : True := by
  k_with "off_flew" => skip
  trivial


theorem word_w3 : True := by
  k_with "w3" => (refine' enter0 ?k1 ?k2 ?k3 ?k5 ?kA ?kF ?kK ?k6 ?k7 ?k8 ?k9 ?kB ?_ ?c2 ?c3 ?c4 ?c5; (case kA => exact rfl); (case kF => exact rfl); (case kK => assumption); (case k1 => k_asm); (case k2 => k_asm); (case k3 => k_asm); (case k5 => k_asm); (case k6 => k_is); (case k7 => k_is); (case k8 => ktr_room); (case k9 => exact BindsTo.of_eq rfl); (case c5 => decide); (case kB => exact locs rfl); (case c2 => exact rfl); (case c3 => exact rfl); (case c4 => exact rfl); k_whole; intro L' h' F' N' B' X' T'; (try dsimp only); (first | (revert L' h' F' N' B' X' T'; intros) | (revert L' h' F' N' X' T'; intros) | (revert L' h' F' N' X' T'; intros)); (try k_fold))
  trivial
local macro_rules | `(tactic| cell_enter) => `(tactic| k_extra "w3")


theorem fresh_init {prog : Program} {w : World} {A : Around} {E : Value → Shared → Prop} {s : Shared} {env : Env} {Q : Flow → Shared → Prop} (h : Q .next s) : wpAny (model prog w) A (execs [] env) Q E s := by
  w_top off
  first | (walk1; done) | (walk1; exact h) | exact wpAny_execs_nil h
section
theorem word_w4 : True := by
  k_with "getMethod type:Exception" => ((fail_if_success k_extra "off_init"); k_here; refine' method_type ?F ?X mt_exc stub_exc ?e ?h ?_; (case F => k_asm); (case X => k_asm); (case e => k_dflt k_is); (case h => k_handed))
  trivial
theorem word_w5 : True := by
  k_with "call builtin:Exception.__init__" => ((fail_if_success k_extra "off_init"); k_here; refine' exc_init_K (by assumption) ?F ?X ?N ?ne ?_ ?hr; (case F => k_asm); (case X => k_asm); (case N => assumption); (case ne => assumption); (case hr => size_fits); intro h' t' F' N'; (revert h' t' F' N'; intros); (try k_sweep))
  trivial
theorem word_w6 : True := by
  k_with "setAttr ref" => ((fail_if_success k_extra "off_init"); k_here; refine' exc_set_K (by assumption) ?F ?X ?N ?ne (by assumption) (by assumption) (by assumption) ?_; (case F => k_asm); (case X => k_asm); (case N => assumption); (case ne => assumption); intro h' tk' dx' F' N'; (revert h' tk' dx' F' N'; intros); (try k_sweep))
  trivial
set_option maxHeartbeats 4000000 in
theorem init_spec {prog : Program} {w : World} {p : Program} {loose : List Str} {mean : ExcName → Option Value} {mg mb : Str → Option Value} {A : Around} {env : Env} {outer : List Env} {A₀ : Around} {base h₀ : Heap} {L : Addr} {m : Str → Option Value} {s : Shared} {R : Result → Shared → Prop}
    {e t : Addr} {msg : Str} {tk : Tok}
    {nm q : Str} {C N : Addr} {bs : List Value} {sn : List Str} {sub : List Value} {ab : Bool} {col : Option Bool} {dd : Option Addr} {k0 k1 k2 k3 k5 : Option Value}
    (hC : List.lookup C (hd.heap_1 w.params) = some (excClassObj nm q C N bs exBm true sn sub ab col dd k0 k1 k2 k3 k5 "Exception.__new__"))
    (hs : findIn (hd.heap_1 w.params) (.ref C) "__setattr__" = some (some (.builtin "object.__setattr__"))) (hm : mroIn (hd.heap_1 w.params) C (.type "object") = some true) (hn : findIn (hd.heap_1 w.params) (.ref C) "message" = some none)
    (B : Below A₀ base outer h₀) (F : Fr h₀ L s.heap m) (X : (hd.heap_1 w.params).In h₀) (hE : s.heap.get? e = some (excObj C t)) (heL : e ≠ L) (he0 : h₀.get? e = none) (T : Top p loose mean mg mb h₀)
    (hA : A.frames = some (env :: outer)) (hf : env.frame = some L) (hk : env.scope.kind = .function)
    (hdp : A.depth < recursionLimit) (hh : A.handled = none)
    (ret : ∀ h' tk' t' dx, (∀ b o, b ≠ e → s.heap.get? b = some o → h'.get? b = some o) → h'.get? e = some ({ cls := .ref C, dict := some dx, data := .fields #[.ref t', .none, .none, .none, .bool false, .none] } : Obj) → R (.ok (.ret .none)) { s with heap := h', toks := tk' })
    : codeAny (model prog w) A (.call (.ref 57) ⟨[.ref e, .str msg tk], []⟩) R s := by
  have hne : ∀ p ∈ ([] : List (Addr × Obj)), p.1 ≠ e := fun _ h => nomatch h
  k_dflt (refine' enter ?k1 ?k2 ?k3 ?k5 ?kA ?kF ?kK [(e, excObj C t)] (news1 hE heL he0) ?k6 ?k7 ?k8 ?k9 ?kB ?_ ?c2 ?c3 ?c4 ?c5; (case kA => exact hA); (case kF => exact hf); (case kK => assumption); (case k1 => k_asm); (case k2 => k_asm); (case k3 => k_asm); (case k5 => k_asm); (case k6 => k_is); (case k7 => k_is); (case k8 => omega); (case k9 => exact BindsTo.of_eq rfl); (case c5 => decide); (case kB => exact locs rfl); (case c2 => exact rfl); (case c3 => exact rfl); (case c4 => exact rfl); k_whole; intro g' L' h' hg' F' N' l1 B' X' T'; (try dsimp only); (try k_fold))
  have hh2 := hide1 hg'
  clear hg'
  k_steps
  all_goals exact ret _ _ _ _ (fun b o hb e => Fr.keep (by assumption) b o (hh2 b o hb e)) (News.get (by assumption) (.head _))

end
theorem off_init : True := by
  k_with "off_init" => skip
  trivial


theorem fresh_take {prog : Program} {w : World} {A : Around} {E : Value → Shared → Prop} {s : Shared} {env : Env} {Q : Flow → Shared → Prop} (h : Q .next s) : wpAny (model prog w) A (execs [] env) Q E s := by
  w_top off
  first | (walk1; done) | (walk1; exact h) | exact wpAny_execs_nil h
section
/-! «_law_take»: the list's two ints turn, an int below top comes back -/
theorem word_w7 : True := by
  k_with "subscriptTail Name Constant ref int" => ((fail_if_success k_extra "off_take"); k_here; (with_reducible show wpAny _ _ (subscriptTail _ _ (Value.ref _) (Value.int _ _)) _ _ _); (with_unfolding_all refine' item_at ?k1 ?k2 ?k3 ?k4 ?k5 ?_ ?k6; (case k1 => k_asm); (case k2 => k_mem); (case k3 => decide); (case k4 => decide); (case k5 => rfl); (case k6 => with_unfolding_all rfl); k_whole))
  trivial
section
variable {prog : Program} {w : World} {p : Program} {loose : List Str} {mean : ExcName → Option Value} {mg mb : Str → Option Value} {dp un : Nat} {gd : Option (List Code)} {cn : Str} {cs : Scope} {a : Addr} {ccd : Value} {cl : List (Str × Addr)} {outer : List Env} {A₀ : Around} {base h₀ : Heap} {L : Addr} {m : Str → Option Value} {s : Shared} {Q E : Value → Shared → Prop}
variable (B : Below A₀ base outer h₀) (F : Fr h₀ L s.heap m) (X : (hd.heap_1 w.params).In h₀) (T : Top p loose mean mg mb h₀) (hk : cs.kind = .function)
include B F X T hk
set_option maxHeartbeats 4000000 in
theorem take_spec {D : Addr} {n : Nat} {x y top : Int} {tx ty tt : Tok} (hD : s.heap.get? D = some (listOf #[.int x tx, .int y ty] n)) (hDL : D ≠ L) (hD0 : h₀.get? D = none)
    (hdp : dp + 1 < recursionLimit) (hun : un + 8 < cLine) (hx : 0 ≤ x) (hy : 0 ≤ y) (hy2 : y < 2147483647) (ht : 0 < top) (ht2 : top < 1000000)
    (ret : ∀ r t x' tx' y' ty' h' tk', 0 ≤ r → r < top → 0 ≤ x' → 0 ≤ y' → y' < 2147483647 → (∀ b o, b ≠ D → s.heap.get? b = some o → h'.get? b = some o) → h'.get? D = some (listOf #[.int x' tx', .int y' ty'] n) → Q (.int r t) { s with heap := h', toks := tk' }) :
    wpAny (model prog w) (ktrTop dp un gd cn cs L a ccd cl outer) (call (.ref 357) [.ref D, .int top tt]) Q E s := by
  refine wpAny_call ?_
  k_dflt (refine' enter ?k1 ?k2 ?k3 ?k5 ?kA ?kF ?kK [(D, listOf #[.int x tx, .int y ty] n)] (news1 hD hDL hD0) ?k6 ?k7 ?k8 ?k9 ?kB ?_ ?c2 ?c3 ?c4 ?c5; (case kA => exact rfl); (case kF => exact rfl); (case kK => assumption); (case k1 => k_asm); (case k2 => k_asm); (case k3 => k_asm); (case k5 => k_asm); (case k6 => k_is); (case k7 => k_is); (case k8 => ktr_room); (case k9 => exact BindsTo.of_eq rfl); (case c5 => decide); (case kB => exact locs rfl); (case c2 => exact rfl); (case c3 => exact rfl); (case c4 => exact rfl); k_whole; intro g' L' h' hg' F' N' l1 B' X' T'; (try dsimp only); (try k_fold))
  have hh := hide1 hg'
  clear hg'
  k_steps
  · exact ret _ _ _ _ _ _ _ _ (fmod_lo _ ht) (fmod_hi _ ht) (fdiv_nn hx ht) hy hy2 (fun b o hb e => Fr.keep (by assumption) b o (hh b o hb e)) (News.get (by assumption) (.head _))
  · exact ret _ _ _ _ _ _ _ _ (fmod_lo _ ht) (fmod_hi _ ht) hx (fmod_lo _ (by decide)) (fmod_hi _ (by decide)) (fun b o hb e => Fr.keep (by assumption) b o (hh b o hb e)) (News.get (by assumption) (.head _))
end

end
theorem off_take : True := by
  k_with "off_take" => skip
  trivial


theorem fresh_word {prog : Program} {w : World} {A : Around} {E : Value → Shared → Prop} {s : Shared} {env : Env} {Q : Flow → Shared → Prop} (h : Q .next s) : wpAny (model prog w) A (execs [] env) Q E s := by
  w_top off
  first | (walk1; done) | (walk1; exact h) | exact wpAny_execs_nil h
section
section
variable {prog : Program} {w : World} {p : Program} {loose : List Str} {mean : ExcName → Option Value} {mg mb : Str → Option Value} {dp un : Nat} {gd : Option (List Code)} {cn : Str} {cs : Scope} {a : Addr} {ccd : Value} {cl : List (Str × Addr)} {outer : List Env} {A₀ : Around} {base h₀ : Heap} {L : Addr} {m : Str → Option Value} {s : Shared} {Q E : Value → Shared → Prop}
variable (B : Below A₀ base outer h₀) (F : Fr h₀ L s.heap m) (X : (hd.heap_1 w.params).In h₀) (T : Top p loose mean mg mb h₀) (hk : cs.kind = .function)
include B F X T hk
theorem word_spec {n : Int} {tn : Tok} (hdp : dp + 1 < recursionLimit) (hun : un + 8 < cLine) (h0 : 0 ≤ n) (h1 : n ≤ 65535)
    (ret : ∀ t h' tk', (∀ b o, s.heap.get? b = some o → h'.get? b = some o) → Q (.bytes (byteArr [n.fdiv 256, n.fmod 256]) t) { s with heap := h', toks := tk' }) :
    wpAny (model prog w) (ktrTop dp un gd cn cs L a ccd cl outer) (call (.ref 118) [.int n tn]) Q E s := by
  refine wpAny_call ?_
  k_dflt cell_enter
  k_steps
  all_goals exact ret _ _ _ (Fr.keep (by assumption))
end

end
theorem off_word : True := by
  k_with "off_word" => skip
  trivial


theorem fresh_raise {prog : Program} {w : World} {A : Around} {E : Value → Shared → Prop} {s : Shared} {env : Env} {Q : Flow → Shared → Prop} (h : Q .next s) : wpAny (model prog w) A (execs [] env) Q E s := by
  w_top off
  first | (walk1; done) | (walk1; exact h) | exact wpAny_execs_nil h
section
/-! «raise C(text)» in a def's frame, C one of the two classes -/
structure RaisedAs (h : Heap) (e C : Addr) (h' : Heap) : Prop where
  keep : ∀ b o, h.get? b = some o → h'.get? b = some o
  new : h.get? e = none
  there : ∃ t dc, h'.get? e = some { cls := .ref C, dict := dc, data := .fields #[.ref t, .none, .none, .none, .bool false, .none] }
def RaiseLeaf (g : Heap) (L : Addr) (C : Addr) (E : Value → Shared → Prop) (vs : List Value) (s₂ : Shared) : Prop :=
  (∃ msg tk, vs = [.str msg tk]) ∧ (∃ m₂, Fr g L s₂.heap m₂) ∧ ∀ e h' tk', RaisedAs s₂.heap e C h' → E (.ref e) { s₂ with heap := h', toks := tk' }
theorem raiseLeaf {g : Heap} {L C : Addr} {E : Value → Shared → Prop} {msg : Str} {tk : Tok} {s₂ : Shared} {m₂ : Str → Option Value} (F : Fr g L s₂.heap m₂) (_ : g = g)
    (h : ∀ e h' tk', RaisedAs s₂.heap e C h' → E (.ref e) { s₂ with heap := h', toks := tk' }) : RaiseLeaf g L C E [.str msg tk] s₂ := ⟨⟨_, _, rfl⟩, ⟨_, F⟩, h⟩
section
variable {prog : Program} {w : World} {A₁ : Around} {E : Value → Shared → Prop} {s : Shared} {base g : Heap} {l : List Env} {L a : Addr} {m : Str → Option Value} {name : Str} {scope : Scope} {cd : Value} {p : Program} {loose : List Str} {mean : ExcName → Option Value} {mg mb : Str → Option Value}
variable {nm q : Str} {C N : Addr} {bs : List Value} {sn : List Str} {sub : List Value} {ab : Bool} {col : Option Bool} {dd : Option Addr} {k0 k1 k2 k3 k5 : Option Value}
theorem raise_K {x : Str} {np cpos pos : Pos} {e₀ : PySem.Expr} {Q : Flow → Shared → Prop}
    (hC : List.lookup C (hd.heap_1 w.params) = some (excClassObj nm q C N bs exBm true sn sub ab col dd k0 k1 k2 k3 k5 "Exception.__new__"))
    (hs : findIn (hd.heap_1 w.params) (.ref C) "__setattr__" = some (some (.builtin "object.__setattr__"))) (hm : mroIn (hd.heap_1 w.params) C (.type "object") = some true) (hn : findIn (hd.heap_1 w.params) (.ref C) "message" = some none)
    (hi : findIn (hd.heap_1 w.params) (.ref C) "__init__" = some (some (.ref 57))) (hft : typeIn (hd.heap_1 w.params) (.ref 57) = some (.type "function"))
    (hx : nsIn (hd.heap_1 w.params) mainGlobals x = some (some (.ref C)))
    (B : Below A₁ base l g) (F : Fr g L s.heap m) (X : (hd.heap_1 w.params).In g) (T : Top p loose mean mg mb g) (hh : A₁.handled = none) (hdp : A₁.depth + 3 < recursionLimit)
    (h : wpAny (model prog w) (A₁.deeper (envOf name scope L a cd)) (spliced (backTo cpos (starEach [e₀] (envOf name scope L a cd)))) (RaiseLeaf g L C E) E s)
    (he : starEach [e₀] (envOf name scope L a cd) = [(false, eval e₀ (envOf name scope L a cd))] := by rfl)
    (hkd : scope.kind = .function := by rfl) (hxk : (envOf name scope L a cd).kindOf x = some .globalImplicit := by rfl) (hdbg : (x == ("__debug__" : Str)) = false := by decide) :
    wpAny (model prog w) (A₁.deeper (envOf name scope L a cd)) (exec (.Raise (some (.Call (.Name x np) [e₀] [] cpos)) none pos) (envOf name scope L a cd)) Q E s := by
  refine own_raise (K := hd.heap_1 w.params) (C := C) (nm := nm) (q := q) (N := N) (bs := bs) (hdct := true) (sn := sn) (sub := sub) (ab := ab) (col := col) (dd := dd) (k0 := k0) (k1 := k1) (k2 := k2) (k3 := k3) (k5 := k5) hh
    (by rw [he]; rfl) hi hft ?_
  refine name_K F X (topRead_of T) hx ⟨rfl, ?_⟩ hkd hxk hdbg
  rw [he] at h ⊢
  refine Calls.evalArgs_plain (wpAny_mono h (fun vs s₂ h₂ => ?_) fun _ _ y => y)
  obtain ⟨⟨msg, tk, rfl⟩, ⟨m₂, F₂⟩, hE⟩ := h₂
  have X₂ := X.keeps F₂.keep
  refine ⟨rfl, by show 1 ≤ sizeLine; rw [sizeLine_eq]; decide, X₂ _ _ hC, X₂, ?_⟩
  obtain ⟨hp, gg, d, t, os⟩ := s₂
  have up : ∀ b o, hp.get? b = some o → ((hp.push (tupO [.str msg tk])).push (excObj C hp.objs.size)).get? b = some o := fun b o e => Heap.get?_push_of_some _ (Heap.get?_push_of_some _ e)
  have hge : ((hp.push (tupO [.str msg tk])).push (excObj C hp.objs.size)).get? (hp.objs.size + 1) = some (excObj C hp.objs.size) := by heap_get
  have F₄ : Fr g L ((hp.push (tupO [.str msg tk])).push (excObj C hp.objs.size)) m₂ := F₂.keeps up
  have hsz : hp.get? (hp.objs.size + 1) = none := Heap.get?_none_of_le (Nat.le_succ _)
  have ge : g.get? (hp.objs.size + 1) = none := by
    cases z : g.get? (hp.objs.size + 1) with
    | none => rfl
    | some o => have := F₂.keep _ _ z; rw [hsz] at this; cases this
  have K' : (((A₁.deeper (envOf name scope L a cd)).under (.builtin "type.__call__" ⟨[.ref C, .str msg tk], []⟩))).frames = some (envOf name scope L a cd :: l) := by
    simp only [Around.under, Around.deeper, B.stack]; rfl
  refine init_spec (t := hp.objs.size) hC hs hm hn B F₄ X hge (Nat.ne_of_gt (Nat.lt_succ_of_lt F₂.ns.lt)) ge T K' rfl hkd (by show A₁.depth + 1 + 1 < _; omega) hh fun h' tk' t' dx hk he' => ?_
  have hk2 : ∀ b o, hp.get? b = some o → h'.get? b = some o := fun b o e => hk b o (fun z => by rw [z, hsz] at e; cases e) (up b o e)
  exact ⟨rfl, hk2 _ _ (X₂ _ _ hC), ⟨_, _, he'⟩, hE _ _ _ ⟨hk2, hsz, ⟨_, _, he'⟩⟩⟩
end
section
variable {M : Model} {A : Around} {E : Value → Shared → Prop} {s' : Shared} {base g h : Heap} {l : List Env} {L a e C : Addr} {m : Str → Option Value} {name : Str} {scope : Scope} {cd : Value} {Q : Unit → Shared → Prop}
theorem flew_raised (K : Below A base l g) (F : Fr g L h m) (r : RaisedAs h e C s'.heap) (hQ : ∀ h', Flew g l e C h' → Q () { s' with heap := h' }) (hkd : scope.kind = .function) :
    wpAny M (A.deeper (envOf name scope L a cd)) (leaving (envOf name scope L a cd) (.ref e)) Q E s' := by
  obtain ⟨t, dc, he⟩ := r.there
  exact flew_first K F r.keep r.new he rfl rfl rfl rfl hQ hkd
end

end
theorem off_raise : True := by
  k_with "off_raise" => skip
  trivial


local macro_rules | `(tactic| walk_at "exec Raise some none") => `(tactic| (k_here; (with_reducible show wpAny _ _ (exec (Stmt.Raise (some (Expr.Call (Expr.Name _ _) [_] [] _)) none _) _) _ _ _); k_dflt (first
  | (refine' raise_K (C := 73) (k73 _) ?s ?m ?n ?i ?f ?x ?B ?F ?X ?T ?hh ?dp ?_ ?e1 ?e2 ?e3 ?e4; (case x => k_is); (case s => k_is); (case m => k_is); (case n => k_is); (case i => k_is); (case f => k_is); (case B => assumption); (case F => k_asm); (case X => k_asm); (case T => k_asm); (case hh => rfl); (case dp => ktr_room); (case e1 => rfl); (case e2 => rfl); (case e3 => rfl); (case e4 => decide))
  | (refine' raise_K (C := 85) (k85 _) ?s ?m ?n ?i ?f ?x ?B ?F ?X ?T ?hh ?dp ?_ ?e1 ?e2 ?e3 ?e4; (case x => k_is); (case s => k_is); (case m => k_is); (case n => k_is); (case i => k_is); (case f => k_is); (case B => assumption); (case F => k_asm); (case X => k_asm); (case T => k_asm); (case hh => rfl); (case dp => ktr_room); (case e1 => rfl); (case e2 => rfl); (case e3 => rfl); (case e4 => decide)))))
theorem word_w8 : True := by
  k_with "RaiseLeaf" => (refine raiseLeaf (by k_asm) rfl ?_; intro e' h' tk' hr'; (revert e' h' tk' hr'; intros))
  trivial
theorem word_w9 : True := by
  k_with "leaving ref" => (k_here; k_dflt (refine' flew_raised ?B ?F ?r ?_ ?k; (case r => assumption); (case B => assumption); (case F => assumption); (case k => rfl)); intro h' hfl'; (revert h' hfl'; intros))
  trivial


theorem fresh_divisor {prog : Program} {w : World} {A : Around} {E : Value → Shared → Prop} {s : Shared} {env : Env} {Q : Flow → Shared → Prop} (h : Q .next s) : wpAny (model prog w) A (execs [] env) Q E s := by
  w_top off
  first | (walk1; done) | (walk1; exact h) | exact wpAny_execs_nil h
section
/-! «check_divisor» -/
section
variable {prog : Program} {w : World} {p : Program} {loose : List Str} {mean : ExcName → Option Value} {mg mb : Str → Option Value} {dp un : Nat} {gd : Option (List Code)} {cn : Str} {cs : Scope} {a : Addr} {ccd : Value} {cl : List (Str × Addr)} {outer : List Env} {A₀ : Around} {base h₀ : Heap} {L : Addr} {m : Str → Option Value} {s : Shared} {Q E : Value → Shared → Prop}
variable (B : Below A₀ base outer h₀) (F : Fr h₀ L s.heap m) (X : (hd.heap_1 w.params).In h₀) (T : Top p loose mean mg mb h₀) (hk : cs.kind = .function)
include B F X T hk
set_option maxHeartbeats 4000000 in
theorem check_spec {d pr : Int} {td tp : Tok} (hdp : dp + 10 < recursionLimit) (hun : un + 40 < cLine)
    (ret : 1 ≤ d → d ≤ (if pr = 1 then 65535 else 255) → ∀ h' tk', (∀ b o, s.heap.get? b = some o → h'.get? b = some o) → Q .none { s with heap := h', toks := tk' })
    (exc : ¬ (1 ≤ d ∧ d ≤ (if pr = 1 then 65535 else 255)) → ∀ e h' tk', Flew s.heap (envX cn cs L a ccd cl :: outer) e 73 h' → E (.ref e) { s with heap := h', toks := tk' }) :
    wpAny (model prog w) (ktrTop dp un gd cn cs L a ccd cl outer) (call (.ref 195) [.int d td, .int pr tp]) Q E s := by
  refine wpAny_call ?_
  k_dflt cell_enter
  k_steps
  all_goals first
    | exact ret (by omega) (by split <;> omega) _ _ (Fr.keep (by assumption))
    | exact exc (by rintro ⟨z1, z2⟩; split at z2 <;> omega) _ _ _ (by assumption)
end

end
theorem off_divisor : True := by
  k_with "off_divisor" => skip
  trivial


theorem fresh_cstruct {prog : Program} {w : World} {A : Around} {E : Value → Shared → Prop} {s : Shared} {env : Env} {Q : Flow → Shared → Prop} (h : Q .next s) : wpAny (model prog w) A (execs [] env) Q E s := by
  w_top off
  first | (walk1; done) | (walk1; exact h) | exact wpAny_execs_nil h
section
/-! the statements, the calls and the loops over clean contexts -/
section
variable {prog : Program} {w : World} {A : Around} {E : Value → Shared → Prop} {R : Result → Shared → Prop} {s : Shared} {env : Env}
theorem codeC_call_function {a : Addr} {args : Args} {o : Obj} {fd : FuncData} {body : List Stmt} (hroom : A.depth < recursionLimit) (ho : s.heap.get? a = some o)
    (hd' : o.data = .func fd) (hco : fd.scope.isCoroutine = false) (hgen : fd.scope.isGenerator = false) (hbody : fd.body = .stmts body) (hcd : s.heap.CodeRec fd.code fd.qualname)
    (h : wpAny (model prog w) A.in1 (bindArgs fd args) (fun binds s₁ =>
      wpAny (model prog w) A.in1 (newFunctionEnv fd.scope fd.globals fd.closure binds (fd.qualname ++ ".<locals>.") (some a) fd.code none fd.builtins)
        (fun env s₂ => s₂.heap.NoLimit ∧ codeC (model prog w) A (.func body env) R s₂) (fun e s' => R (.error e) s') s₁) (fun e s' => R (.error e) s') s) :
    codeC (model prog w) A (.call (.ref a) args) R s := by
  refine codeC_of_tree rfl (wpC_of ?_)
  show wpAny _ A.in1 (callAny (.ref a) args) _ _ s
  simp only [callAny]
  refine wpAny_bind (wpAny_load ho ?_)
  obtain ⟨c, oc, vs, tq, hc, hoc, hdc, hq⟩ := hcd
  simp only [hd', callFunction, hco, hgen, hbody, hc]
  rw [hc] at h
  refine wpAny_bind (m := field (.ref c) 1) (wpAny_field hoc hdc hq (wpAny_bind (wpAny_pure ?_)))
  exact wpAny_bind (wpAny_mono h (fun binds s₁ h₁ => wpAny_bind (wpAny_mono h₁ (fun env s₂ h₂ => wpAny_bind (wpAny_enterFrame h₂.1 hroom
    (wpAny_pure (And.intro rfl h₂.2)))) fun _ _ h' => h')) fun _ _ h' => h')
theorem codeC_func {body : List Stmt}
    (h : wpC (model prog w) (A.deeper env) (execs body env) (fun f s' => R (.ok (.ret (match f with | .ret v => v | _ => .none))) s')
      (fun e s' => wpAny (model prog w) (A.deeper env) (leaving env e) (fun _ s'' => R (.error e) s'') (fun e' s'' => R (.error e') s'') s') s) :
    codeC (model prog w) A (.func body env) R s := by
  refine codeC_of_tree rfl ?_
  show wpC _ (A.deeper env) (do point; match ← (execs body env).onRaise (leaving env) with | .ret v => ret v | _ => ret .none) _ _ s
  have key : wpC (model prog w) (A.deeper env) ((execs body env).onRaise (leaving env)) (fun f s' => R (.ok (.ret (match f with | .ret v => v | _ => .none))) s') (fun e s' => R (.error e) s') s := fun Γ p hΓ hc => by
    rw [Sem.wp_onRaise]
    exact Sem.wp_mono _ Γ _ (fun _ _ _ x => x) (fun e p' s' x => x Γ p' hΓ) p s (h Γ p hΓ hc)
  refine wpC_bindA (wpAny_point (wpC_bind (wpC_mono key (fun f s' h' => ?_) fun _ _ h' => h')))
  cases f <;> exact wpC_of (wpAny_pure h')
theorem wpC_noted {α : Type} {M : Model} {m : Sem α} {Q : α → Shared → Prop} (h : wpC M A m Q (notedBy M A env E) s) : wpC M A (m.onRaise fun x => do noteFrame x env; theTreesLotGoes x) Q E s :=
  wpC_onRaise (wpC_mono h (fun _ _ q => q) fun _ _ hx => wpAny_bind (wpAny_mono hx (fun _ _ e => wpAny_theTreesLotGoes e) fun _ _ e => e))
theorem codeC_forLoop {target : PySem.Expr} {it : Value} {body : List Stmt} (I : Nat → Shared → Prop)
    (turn : ∀ n s, I n s → wpAny (model prog w) A (pyNext it) (fun r s₁ => match r with
      | none => R (.ok .next) s₁
      | some v => wpAny (model prog w) A (letOwnedTupleGo target it v) (fun _ s₁' =>
          wpAny (model prog w) A (assign target env v) (fun _ s₂ => wpC (model prog w) A (execs body env) (fun f s₃ => match f with
            | .next | .cont => ∃ m, m < n ∧ I m s₃
            | .brk => R (.ok .next) s₃
            | .ret v => R (.ok (.ret v)) s₃) (notedBy (model prog w) A env fun e s' => R (.error e) s') s₂) (notedBy (model prog w) A env fun e s' => R (.error e) s') s₁') (notedBy (model prog w) A env fun e s' => R (.error e) s') s₁) (notedBy (model prog w) A env fun e s' => R (.error e) s') s)
    (n : Nat) (h : I n s) : codeC (model prog w) A (.forLoop target it body [] env) R s := by
  refine codeC_loop rfl rfl I (fun n s hI => ?_) n h
  show wpC _ A ((forTurn target it body [] env).onRaise (fun x => do noteFrame x env; theTreesLotGoes x)) _ _ s
  refine wpC_noted ?_
  simp only [forTurn]
  have key : ∀ g : Pos, wpC (model prog w) A ((pyNext it).onRaise fun _ => standAt g) (fun r s₁ => match r with
      | none => R (.ok .next) s₁
      | some v => wpAny (model prog w) A (letOwnedTupleGo target it v) (fun _ s₁' =>
          wpAny (model prog w) A (assign target env v) (fun _ s₂ => wpC (model prog w) A (execs body env) (fun f s₃ => match f with
            | .next | .cont => ∃ m, m < n ∧ I m s₃
            | .brk => R (.ok .next) s₃
            | .ret v => R (.ok (.ret v)) s₃) (notedBy (model prog w) A env fun e s' => R (.error e) s') s₂) (notedBy (model prog w) A env fun e s' => R (.error e) s') s₁') (notedBy (model prog w) A env fun e s' => R (.error e) s') s₁) (notedBy (model prog w) A env fun e s' => R (.error e) s') s :=
    fun g => wpC_of (wpAny_onRaise (wpAny_mono (turn n s hI) (fun _ _ x => x) fun _ _ h' => wpAny_standAt h'))
  refine wpC_bindA (wpAny_standAt (wpC_bind (wpC_mono (key _) (fun r s₁ h₁ => ?_) fun _ _ h' => h')))
  cases r with
  | none => exact wpC_of (wpAny_pure (.inr ⟨rfl, codeC_of (codeAny_block (wpAny_execs_nil h₁))⟩))
  | some v =>
    refine wpC_bindA (wpAny_mono h₁ (fun _ s₁' h₁' => ?_) fun _ _ h' => h')
    refine wpC_bindA (wpAny_mono h₁' (fun _ s₂ h₂ => wpC_bind (wpC_mono h₂ (fun f s₃ h₃ => ?_) fun _ _ h' => h')) fun _ _ h' => h')
    cases f with
    | next => exact wpC_of (wpAny_pure (.inl ⟨rfl, h₃⟩))
    | cont => exact wpC_of (wpAny_pure (.inl ⟨rfl, h₃⟩))
    | brk => exact wpC_of (wpAny_pure h₃)
    | ret v => exact wpC_of (wpAny_pure h₃)
theorem execC_Try {body : List Stmt} {h₀ : ExceptHandler} {hs : List ExceptHandler} {pos : Pos} {Q : Flow → Shared → Prop}
    (h : wpC (model prog w) A (execs body env) Q
      (fun e s₁ => wpAny (model prog w) A (noteFrame e env) (fun _ s₂ => wpAny (model prog w) A (setFlight e none) (fun _ s₃ => wpAny (model prog w) A (handleBy e env (h₀ :: hs)) Q E s₃) E s₂) E s₁) s) :
    wpC (model prog w) A (exec (.Try body (h₀ :: hs) [] [] pos) env) Q E s := by
  rw [arm_exec_Try]
  refine wpC_bindA (wpAny_standAt ?_)
  unfold tryStmt
  simp only [List.isEmpty_nil, if_true, List.isEmpty_cons, Bool.false_and, Bool.false_eq_true, if_false]
  refine wpC_bind (wpC_attempt (wpC_mono h (fun f s₁ h₁ => ?_) fun e s₁ h₁ => ?_))
  · cases f <;> first | exact wpC_of (wpAny_execs_nil h₁) | exact wpC_of (wpAny_pure h₁)
  · exact wpC_bindA (wpAny_mono h₁ (fun _ _ h₂ => wpC_of (wpAny_bind h₂)) fun _ _ x => x)
end
section
variable {M : Model} {A : Around} {E : Value → Shared → Prop} {s : Shared} {env : Env}
theorem evalC_Call_ofName {x : Str} {np pos : Pos} {args : List PySem.Expr} {keywords : List Keyword} {Q : Value → Shared → Prop}
    (h : wpAny M A (eval (.Name x np) env) (fun f s₁ => wpC M A (callWith pos f [] (backTo pos (starEach args env)) (backToKw pos (keywordEach keywords env))) Q E s₁) E s) :
    wpC M A (eval (.Call (.Name x np) args keywords pos) env) Q E s := by
  show wpC M A (do callWith pos (← eval (.Name x np) env) [] (backTo pos (starEach args env)) (backToKw pos (keywordEach keywords env))) Q E s
  exact wpC_bindA h
theorem evalC_methodCall {name : Str} {o : PySem.Expr} {apos pos : Pos} {args : List PySem.Expr} {kws : List Keyword} {pl : Sem Bool} {Q : Value → Shared → Prop}
    (h : wpAny M A (eval o env) (fun ov s₁ => wpAny M A (getMethod ov name pl) (fun fx s₂ => wpC M A (callWith pos fx.1 fx.2 (backTo pos (starEach args env)) (backToKw pos (keywordEach kws env))) Q E s₂) E s₁) E s)
    (he : eval (.Call (.Attribute o name apos) args kws pos) env = (do
      let ov ← eval o env
      standAt apos.atName
      let (f, first) ← holding [ov] (getMethod ov name pl)
      callWith pos f first (backTo pos (starEach args env)) (backToKw pos (keywordEach kws env))) := by rfl) :
    wpC M A (eval (.Call (.Attribute o name apos) args kws pos) env) Q E s := by
  rw [he]
  exact wpC_bindA (wpAny_mono h (fun ov s₁ h₁ => wpC_bindA (wpAny_standAt (wpC_bindA (wpAny_holding (wpAny_mono h₁ (fun fx s₂ h₂ => h₂) fun _ _ x => x))))) fun _ _ x => x)
theorem splicedC_nil {Q : List Value → Shared → Prop} (h : Q [] s) : wpC M A (spliced []) Q E s := wpC_of (wpAny_pure h)
theorem splicedC_cons {x : Sem Value} {rest : List (Bool × Sem Value)} {Q : List Value → Shared → Prop}
    (h : wpC M A x (fun v s₁ => wpC M A (spliced rest) (fun vs s₂ => Q (v :: vs) s₂) E s₁) E s) : wpC M A (spliced ((false, x) :: rest)) Q E s := by
  rw [spliced]
  refine wpC_bind (wpC_mono h (fun v s₁ h₁ => ?_) fun _ _ x => x)
  simp only [Bool.false_eq_true, if_false]
  exact wpC_bindA (wpAny_pure (wpC_bind (wpC_holding (wpC_mono h₁ (fun vs s₂ h₂ => wpC_of (wpAny_pure h₂)) fun _ _ x => x))))
theorem splicedC_more {e : PySem.Expr} {rest : List PySem.Expr} {pos : Pos} {Q : List Value → Shared → Prop}
    (h : wpC M A (eval e env) (fun v s₁ => wpC M A (spliced (backTo pos (starEach rest env))) (fun vs s₂ => Q (v :: vs) s₂) E s₁) E s)
    (he : starEach (e :: rest) env = (false, eval e env) :: starEach rest env := by rfl) : wpC M A (spliced (backTo pos (starEach (e :: rest) env))) Q E s := by
  rw [he]; exact splicedC_cons h
theorem callWithC_of {P : Heap → Prop} {pos : Pos} {f : Value} {first : List Value} {e : PySem.Expr} {rest : List PySem.Expr} {Q : Value → Shared → Prop}
    (hk : ∀ h, P h → ∃ k, (k = Keeper.frame ∨ k = Keeper.machine ∨ k = Keeper.boundFrame) ∧ Looks M h (keeperOf f) k)
    (h : wpC M A (spliced (backTo pos (starEach (e :: rest) env))) (fun vs s₁ => P s₁.heap ∧ wpC M A (call f (first ++ vs)) Q E s₁) E s)
    (he : starEach (e :: rest) env = (false, eval e env) :: starEach rest env := by rfl) (hplain : (backTo pos (starEach rest env)).any (·.1) = false := by rfl) :
    wpC M A (callWith pos f first (backTo pos (starEach (e :: rest) env)) []) Q E s := by
  rw [he] at h ⊢
  have hp : ((backTo pos ((false, eval e env) :: starEach rest env)).any (·.1) || ([] : List (Option Str × Sem Value)).any (·.1.isNone)) = false := by
    show ((false || (backTo pos (starEach rest env)).any (·.1)) || false) = false; rw [hplain]; rfl
  have h' : wpC M A (evalArgs f true (backTo pos ((false, eval e env) :: starEach rest env)) []) (fun a s₁ => P s₁.heap ∧ wpC M A (call f (first ++ a.pos) a.kw) Q E s₁) E s := by
    unfold evalArgs
    show wpC M A (spliced (backTo pos ((false, eval e env) :: starEach rest env)) >>= _) _ E s
    refine wpC_bind (wpC_mono h (fun vs s' h' => ?_) fun _ _ x => x)
    exact wpC_holding (wpC_of (wpAny_bind (wpAny_pure (wpAny_bind (wpAny_pure (wpAny_pure h'))))))
  unfold callWith
  refine wpC_bind (wpC_holding (wpC_mono h' (fun a s₁ h₁ => wpC_bindA (wpAny_standAt ?_)) fun _ _ x => x))
  obtain ⟨k, hk', L⟩ := hk _ h₁.1
  simp only [hp]
  refine wpC_bindA (L.here ?_)
  have tail : ∀ {t : Sem Value}, wpC M A t Q E s₁ → wpC M A (t >>= fun r => holding [r] point >>= fun _ => pure r) Q E s₁ :=
    fun ht => wpC_bind (wpC_mono ht (fun r s₂ hr => wpC_of (wpAny_bind (wpAny_holding (wpAny_point (wpAny_pure hr))))) fun _ _ x => x)
  have marked (mk : Value) : wpC M A (callMarked mk f (first ++ a.pos) a.kw) Q E s₁ := by unfold callMarked; exact wpC_keep h₁.2
  rcases hk' with rfl | rfl | rfl <;> dsimp only <;> first | exact tail h₁.2 | (split <;> first | exact tail h₁.2 | exact tail (marked _))
end

end
theorem off_cstruct : True := by
  k_with "off_cstruct" => skip
  trivial


theorem fresh_bar {prog : Program} {w : World} {A : Around} {E : Value → Shared → Prop} {s : Shared} {env : Env} {Q : Flow → Shared → Prop} (h : Q .next s) : wpAny (model prog w) A (execs [] env) Q E s := by
  w_top off
  first | (walk1; done) | (walk1; exact h) | exact wpAny_execs_nil h
section
/-! the bytearray, over clean contexts -/
theorem owner_ba : Manifest.owners.lookup (String.ofList ['y', 'a', 'r', 'r', 'a', 'e', 't', 'y', 'b'].reverse) = some Manifest.sig_bytearray := by kernel_rfl
theorem slot_ba_append : Slot "bytearray" "append" "bytearray.append" :=
  .of (owner := "bytearray") (n := "append") (by rw [typeLookup_type, builtinLookup_eq_fast]; kernel_rfl) (by decide +kernel) (by decide +kernel) (by decide +kernel)
    (by first | exact .inl (by decide +kernel) | exact .inr (by decide +kernel)) (by rw [isSubtype_type]; kernel_rfl)
theorem entry_ba_append : entryFor table "bytearray.append" = some Builtin.«bytearray.append» := entryFor_of_tree (by kernel_rfl)
theorem args_ba_append (a b : Value) : argsOk "bytearray.append" ⟨[a, b], []⟩ := by
  unfold argsOk; rw [signature?_of (id := "bytearray.append") (n := ['d', 'n', 'e', 'p', 'p', 'a']) (o := ['y', 'a', 'r', 'r', 'a', 'e', 't', 'y', 'b']) (by kernel_rfl) owner_ba]; kernel_rfl
theorem slot_ba_extend : Slot "bytearray" "extend" "bytearray.extend" :=
  .of (owner := "bytearray") (n := "extend") (by rw [typeLookup_type, builtinLookup_eq_fast]; kernel_rfl) (by decide +kernel) (by decide +kernel) (by decide +kernel)
    (by first | exact .inl (by decide +kernel) | exact .inr (by decide +kernel)) (by rw [isSubtype_type]; kernel_rfl)
theorem entry_ba_extend : entryFor table "bytearray.extend" = some Builtin.«bytearray.extend» := entryFor_of_tree (by kernel_rfl)
theorem args_ba_extend (a b : Value) : argsOk "bytearray.extend" ⟨[a, b], []⟩ := by
  unfold argsOk; rw [signature?_of (id := "bytearray.extend") (n := ['d', 'n', 'e', 't', 'x', 'e']) (o := ['y', 'a', 'r', 'r', 'a', 'e', 't', 'y', 'b']) (by kernel_rfl) owner_ba]; kernel_rfl
theorem slot_ba_init : Slot "bytearray" "__init__" "bytearray.__init__" :=
  .of (owner := "bytearray") (n := "__init__") (by rw [typeLookup_type, builtinLookup_eq_fast]; kernel_rfl) (by decide +kernel) (by decide +kernel) (by decide +kernel)
    (by first | exact .inl (by decide +kernel) | exact .inr (by decide +kernel)) (by rw [isSubtype_type]; kernel_rfl)
theorem entry_ba_init : entryFor table "bytearray.__init__" = some Builtin.«bytearray.__init__» := entryFor_of_tree (by kernel_rfl)
theorem args_ba_init (a : Value) : argsOk "bytearray.__init__" ⟨[a], []⟩ := by
  unfold argsOk; rw [signature?_of (id := "bytearray.__init__") (n := ['_', '_', 't', 'i', 'n', 'i', '_', '_']) (o := ['y', 'a', 'r', 'r', 'a', 'e', 't', 'y', 'b']) (by kernel_rfl) owner_ba]; kernel_rfl
theorem mro_ba : mroOf (.type "bytearray") = pure [.type "bytearray", .type "object"] := by rw [mroOf_type]; kernel_rfl
theorem lookup_ba_new : typeLookup (.type "bytearray") "__new__" = pure (some (.builtin "bytearray.__new__")) := by rw [typeLookup_type, builtinLookup_eq_fast]; kernel_rfl
theorem plain_ba_new : plainId "bytearray.__new__" = true := by decide +kernel
theorem called_ba : TypeCalled "bytearray" "bytearray.__new__" "bytearray.__init__" :=
  ⟨by decide +kernel, by decide +kernel, ⟨_, _, mro_ba⟩, madeBy_type mro_ba lookup_ba_new (by decide +kernel), by decide +kernel, by rw [isSubtype_type]; kernel_rfl, slot_ba_init⟩
theorem typeCall_ba : checkTypeCall "bytearray" ⟨[], []⟩ = pure () := by kernel_rfl
theorem newCall_ba : checkBuiltinCall "bytearray.__new__" ⟨[.type "bytearray"], []⟩ = pure () := by kernel_rfl
theorem entry_ba_new : entryFor table "bytearray.__new__" = some Builtin.«list.__new__» := entryFor_alias (id' := "list.__new__") (by rw [fastTable_eq_tree]; kernel_rfl) rfl (by decide +kernel) (by rw [fastTable_eq_tree]; kernel_rfl)
theorem release_ba : typeLookup (.type "bytearray") "__release_buffer__" = pure (some (.builtin "bytearray.__release_buffer__")) := by rw [typeLookup_type, builtinLookup_eq_fast]; kernel_rfl
set_option maxRecDepth 1000000 in
set_option maxHeartbeats 4000000 in
theorem owner_ba_new : ("bytearray.__new__".splitOn ".__new__").headD "" = "bytearray" := by simp +decide [String.splitOn, String.splitOnAux]
section
variable {prog : Program} {w : World} {A : Around} {E : Value → Shared → Prop} {s : Shared} {R : Result → Shared → Prop}
theorem codeC_builtin {id : String} {args : Args} {b : Builtin} (hg : badC (.builtin id args) = false) (hb : entryFor table id = some b)
    (h : wpC (model prog w) (A.under (.builtin id args)) (b args)
      (fun fin s' => match fin with | .done f => R (.ok f) s' | .again c' => c'.quiet = true ∧ codeC (model prog w) A c' R s') (fun e s' => R (.error e) s') s) :
    codeC (model prog w) A (.builtin id args) R s := by
  refine codeC_of_tree hg ?_
  show wpC _ _ (match entryFor table id with | some b => b args | none => unsupported ((withoutEnding? id "#data").getD id)) _ _ s
  rw [hb]; exact h
theorem codeC_call_builtin {id : String} {args : Args} {b : Builtin} (hg : badC (.builtin id args) = false) (hq : plainId id = true) (hb : entryFor table id = some b)
    (h : wpAny (model prog w) A.in1 (checkBuiltinCall id args) (fun _ s₁ => wpC (model prog w) A.in1 (b args)
      (fun fin s' => match fin with | .done f => R (.ok f) s' | .again c' => c'.quiet = true ∧ codeC (model prog w) A c' R s') (fun e s' => R (.error e) s') s₁)
      (fun e s' => R (.error e) s') s) : codeC (model prog w) A (.call (.builtin id) args) R s := by
  refine codeC_of_tree rfl ?_
  show wpC _ A.in1 (do checkBuiltinCall id args; again (.builtin id args)) _ _ s
  refine wpC_bindA (wpAny_mono h (fun _ s₁ h₁ => wpC_of (wpAny_pure (And.intro (plainId_quiet hq args) (codeC_builtin hg hb ?_)))) fun _ _ h' => h')
  rw [Around.under_plainId hq args]; exact h₁
theorem callC_entry {T : String} {name : Str} {id : String} {b : Builtin} {self : Value} {rest : List Value} {Q : Value → Shared → Prop} (h : Slot T name id) (hT : s.TypeIs self T)
    (hb : entryFor table id = some b) (hg : holders.contains id = false)
    (hc : wpC (model prog w) A.in1 (b ⟨self :: rest, []⟩) (fun fin s' => ∃ v, fin = .done (.ret v) ∧ Q v s') E s)
    (ha : argsOk id ⟨self :: rest, []⟩) : wpC (model prog w) A (call (.builtin id) (self :: rest)) Q E s := by
  refine wpC_call (codeC_call_builtin hg h.plain hb (h.check _ _ _ _ _ _ _ _ hT ha (wpC_mono hc (fun fin s' h' => ?_) fun _ _ h' => h')))
  obtain ⟨v, rfl, hv⟩ := h'; exact hv
theorem wpC_exported {self : Value} {Q : Bool → Shared → Prop} (h : Q false s) : wpC (model prog w) A (Builtin.Bytes.exported self) Q E s := by
  unfold Builtin.Bytes.exported
  refine wpC_bind (wpC_stack fun st hst => wpC_of (wpAny_of_eq (a := false) (congrArg pure (List.any_eq_false.mpr fun x hx => ?_)) h))
  have hb := hst x hx
  split <;> simp_all [badC, holders]
def baObj (b : Array UInt8) : Obj := { cls := .type "bytearray", data := .bytearray b }
theorem wpC_checkResize {S : Addr} {b : Array UInt8} {Q : Unit → Shared → Prop} (hS : s.heap.get? S = some (baObj b)) (h : Q () s) : wpC (model prog w) A (Builtin.Bytes.checkResize (.ref S)) Q E s := by
  unfold Builtin.Bytes.checkResize
  refine wpC_bind (m := Builtin.Bytes.exported (.ref S) <||> _) ?_
  refine wpC_bind (wpC_exported ?_)
  refine wpC_of (wpAny_bind (m := Builtin.Bytes.exportsOf (.ref S)) ?_)
  refine wpAny_bind (wpAny_load hS ?_)
  exact wpAny_pure (wpAny_pure (wpC_of (wpAny_pure h)))
theorem write_ba {S : Addr} {b : Array UInt8} {f : Array UInt8 → Array UInt8} {Q : Unit → Shared → Prop} (hS : s.heap.get? S = some (baObj b)) (hz : (f b).size ≤ sizeLine)
    (h : ∀ h', h'.get? S = some (baObj (f b)) → Heap.SameBut S s.heap h' → Q () { s with heap := h' }) : wpAny (model prog w) A (Builtin.Bytes.write (.ref S) f) Q E s := by
  show wpAny _ _ (updateBytearray S f) _ _ _
  unfold updateBytearray
  refine wpAny_bind (wpAny_load hS ?_)
  show wpAny _ _ (update S (Obj.mapBytearray f) >>= fun _ => lookBehind S) _ _ _
  refine wpAny_bind (wpAny_update hS ?_)
  have hS₂ : (s.heap.update S (Obj.mapBytearray f)).get? S = some (baObj (f b)) := Heap.get?_update_self (Obj.mapBytearray f) hS rfl
  refine wpAny_lookBehind hS₂ ?_ (h _ hS₂ (Heap.SameBut.update ..))
  show (if (f b).size > sizeLine then some "bytearray:memory" else none) = none
  rw [if_neg]; omega
theorem typeIs_ba {S : Addr} {b : Array UInt8} (hS : s.heap.get? S = some (baObj b)) : s.TypeIs (.ref S) "bytearray" := ⟨_, hS, rfl⟩
theorem ba_append {S : Addr} {b : Array UInt8} {n : Int} {t : Tok} {Q : Value → Shared → Prop} (hS : s.heap.get? S = some (baObj b)) (h0 : 0 ≤ n) (h1 : n < 256) (hz : b.size + 1 ≤ sizeLine)
    (h : ∀ h', h'.get? S = some (baObj (b.push n.toNat.toUInt8)) → Heap.SameBut S s.heap h' → Q .none { s with heap := h' }) :
    wpC (model prog w) A (call (.builtin "bytearray.append") [.ref S, .int n t]) Q E s := by
  refine callC_entry slot_ba_append (typeIs_ba hS) entry_ba_append (by decide +kernel) ?_ (args_ba_append _ _)
  unfold Builtin.«bytearray.append»
  refine wpC_bindA (wpAny_of_eq (a := (Value.ref S, Value.int n t)) rfl ?_)
  refine wpC_bindA (m := Builtin.Bytes.byteValue (.int n t)) ?_
  unfold Builtin.Bytes.byteValue
  refine wpAny_bind (wpAny_of_eq (rfl : asIndex (.int n t) = pure n) ?_)
  refine bm_if_false (by simp only [Bool.or_eq_false_iff, decide_eq_false_iff_not]; omega) (wpAny_pure ?_)
  refine wpC_bind (wpC_checkResize hS (wpC_bindA (write_ba hS (by rw [Array.size_push]; exact hz) fun h' a1 a2 => wpC_of (wpAny_pure ⟨_, rfl, h h' a1 a2⟩))))
theorem take_bytes {b : Array UInt8} {t : Tok} : Builtin.Bytes.takeBufferQuiet? "bytearray.extend" (.bytes b t) 0 = pure (some (b, none)) := by
  unfold Builtin.Bytes.takeBufferQuiet? Builtin.Bytes.takeBuffer?
  have e : ((0 : Int) == Builtin.Bytes.fullReadOnly) = false := by decide
  rw [KBy.special_eq KBy.look_buffer, KBy.own_buffer, e, KBy.buffer_eq]
  kernel_rfl
theorem ba_extend {S : Addr} {b c : Array UInt8} {t : Tok} {Q : Value → Shared → Prop} (hS : s.heap.get? S = some (baObj b)) (hz : b.size + c.size ≤ sizeLine)
    (h : ∀ h', h'.get? S = some (baObj (b ++ c)) → Heap.SameBut S s.heap h' → Q .none { s with heap := h' }) :
    wpC (model prog w) A (call (.builtin "bytearray.extend") [.ref S, .bytes c t]) Q E s := by
  refine callC_entry slot_ba_extend (typeIs_ba hS) entry_ba_extend (by decide +kernel) ?_ (args_ba_extend _ _)
  unfold Builtin.«bytearray.extend»
  refine wpC_bindA (wpAny_of_eq (a := (Value.ref S, Value.bytes c t)) rfl ?_)
  refine wpC_bindA (wpAny_of_eq (KBy.special_eq KBy.look_buffer) ?_)
  dsimp only [Option.isSome_some]
  rw [if_pos rfl]
  refine wpC_bindA (wpAny_rule ?_)
  refine wpC_bindA (m := Builtin.Bytes.payload (.ref S)) (wpAny_bind (wpAny_bind (wpAny_load hS (wpAny_pure (wpAny_pure ?_)))))
  refine wpC_bindA (wpAny_of_eq take_bytes ?_)
  dsimp only [Option.isNone_none]
  rw [if_pos rfl]
  show wpC _ _ (if (!c.isEmpty) = true then Builtin.Bytes.checkResize (.ref S) >>= fun _ => Builtin.Bytes.write (.ref S) (· ++ c) >>= fun _ => ret .none else Builtin.Bytes.write (.ref S) (· ++ c) >>= fun _ => ret .none) _ _ _
  have wr : wpC (model prog w) A.in1 (Builtin.Bytes.write (.ref S) (· ++ c) >>= fun _ => ret .none) (fun fin s' => ∃ v, fin = .done (.ret v) ∧ Q v s') E s :=
    wpC_bindA (write_ba hS (by rw [Array.size_append]; exact hz) fun h' a1 a2 => wpC_of (wpAny_pure ⟨_, rfl, h h' a1 a2⟩))
  by_cases hc : (!c.isEmpty) = true
  · rw [if_pos hc]
    exact wpC_bind (wpC_checkResize hS wr)
  · rw [if_neg hc]
    exact wr
theorem ba_ownRelease {M : Model} {S : Addr} {b : Array UInt8} {Q : Bool → Shared → Prop} (hS : s.heap.get? S = some (baObj b)) (h : Q false s) : wpAny M A (Builtin.Bytes.ownRelease (.ref S)) Q E s := by
  have key : ∀ x : String, x = "bytearray" → wpAny M A (isInstance (.ref S) (.type x)) (fun a s' => wpAny M A (pure !a) Q E s') E s := fun x hx => by
    rw [hx]; exact wpAny_isInstance (typeIs_ba hS) called_ba.sub (wpAny_pure h)
  unfold Builtin.Bytes.ownRelease Builtin.Bytes.slotIsOwn
  refine wpAny_bind (wpAny_bind (wpAny_specialOf (typeIs_ba hS) release_ba ?_))
  dsimp only
  split
  · rename_i hx; exact absurd hx (by decide +kernel)
  · exact key _ (by decide +kernel)
theorem ba_bind : Builtin.Bytes.bindOptional "bytearray.__init__" "bytearray" ["source", "encoding", "errors"] [] [] = pure [none, none, none] := by kernel_rfl
theorem ba_init {S : Addr} {b : Array UInt8} {Q : Value → Shared → Prop} (hS : s.heap.get? S = some (baObj b))
    (h : ∀ h', h'.get? S = some (baObj #[]) → Heap.SameBut S s.heap h' → Q .none { s with heap := h' }) :
    wpC (model prog w) A (call (.builtin "bytearray.__init__") [.ref S]) Q E s := by
  refine callC_entry slot_ba_init (typeIs_ba hS) entry_ba_init (by decide +kernel) ?_ (args_ba_init _)
  unfold Builtin.«bytearray.__init__»
  dsimp only
  refine wpC_bindA (m := Builtin.Bytes.ownRelease (.ref S)) (ba_ownRelease hS ?_)
  rw [if_neg Bool.false_ne_true]
  refine wpC_bindA (wpAny_of_eq ba_bind ?_)
  dsimp only
  refine wpC_bindA (wpAny_of_eq (a := ()) rfl (wpC_bindA (wpAny_of_eq (a := ()) rfl ?_)))
  refine wpC_bind (m := Builtin.Bytes.exported (.ref S) <||> _) ?_
  refine wpC_bind (wpC_exported ?_)
  refine wpC_of (wpAny_bind (m := Builtin.Bytes.exportsOf (.ref S)) ?_)
  refine wpAny_bind (wpAny_load hS ?_)
  refine wpAny_pure (wpAny_pure ?_)
  rw [if_neg (by decide)]
  refine wpC_bindA (write_ba hS (Nat.zero_le _) fun h' a1 a2 => wpC_of ?_)
  exact wpAny_pure ⟨_, rfl, h h' a1 a2⟩
theorem code_ba_new {Q₁ : Value → Shared → Prop} (h : Q₁ (.ref s.heap.objs.size) { s with heap := s.heap.push (baObj #[]) }) :
    codeAny (model prog w) A (.call (.builtin "bytearray.__new__") ⟨[.type "bytearray"], []⟩) (wants Q₁ E) s := by
  refine codeAny_of_tree ?_
  show wpAny _ A.in1 (do checkBuiltinCall "bytearray.__new__" ⟨[.type "bytearray"], []⟩; again (.builtin "bytearray.__new__" ⟨[.type "bytearray"], []⟩)) _ _ s
  refine wpAny_bind (wpAny_of_eq newCall_ba (wpAny_pure ⟨plainId_quiet plain_ba_new _, codeAny_builtin_stack entry_ba_new rfl fun p st => ?_⟩))
  rw [Around.under_plainId plain_ba_new _]
  have hsub := called_ba.sub
  have hown := owner_ba_new
  obtain ⟨hp, g, d, tk, os⟩ := s
  simp only [hown]
  wp_walk
  exact h
theorem call_bytearray {Q : Value → Shared → Prop} (hQ : ∀ h', h'.get? s.heap.objs.size = some (baObj #[]) → (∀ b o, s.heap.get? b = some o → h'.get? b = some o) → Q (.ref s.heap.objs.size) { s with heap := h' }) :
    wpC (model prog w) A (call (.type "bytearray") []) Q E s := by
  refine wpC_call (codeC_of_tree rfl ?_)
  show wpC _ _ (callAny (.type "bytearray") _) _ _ _
  refine wpC_of (wpAny_pure ⟨Code.quiet_builtin _ (by decide +kernel), codeC_builtin (by decide +kernel) F.entry_type_call ?_⟩)
  rw [Around.under_plain (weight_type_call_type "bytearray" [] []) rfl]
  unfold Builtin.«type.__call__»
  dsimp only
  rw [called_ba.notType]
  simp only [Bool.false_eq_true, if_false]
  rw [if_neg (fun hx => Bool.false_ne_true (called_ba.canCreate.symm.trans hx))]
  refine wpC_bindA (wpAny_of_eq typeCall_ba (wpC_bindA (wpAny_of_eq mro_ba ?_)))
  rw [if_neg (by simp)]
  refine wpC_bindA (wpAny_of_eq called_ba.made ?_)
  dsimp only
  refine wpC_bindA (wpAny_of_eq (a := Value.builtin "bytearray.__new__") rfl ?_)
  refine wpC_bindA (wpAny_holding (wpAny_call (codeAny_mono (code_ba_new (E := E) (Q₁ := fun obj s₁ => obj = .ref s.heap.objs.size ∧ s₁ = { s with heap := s.heap.push (baObj #[]) }) ⟨rfl, rfl⟩) fun r s₁ hr => ?_)))
  cases r with
  | error e => exact hr
  | ok fl =>
    cases fl with
    | ret obj =>
      obtain ⟨rfl, rfl⟩ := hr
      have hS : (s.heap.push (baObj #[])).get? s.heap.objs.size = some (baObj #[]) := Heap.get?_push_size _ rfl
      have hT : Shared.TypeIs { s with heap := s.heap.push (baObj #[]) } (.ref s.heap.objs.size) "bytearray" := ⟨_, hS, rfl⟩
      refine wpC_bindA (wpAny_isInstance hT called_ba.sub ?_)
      rw [if_neg (by simp)]
      refine wpC_bind (wpC_holding ?_)
      unfold callSpecial?
      refine wpC_bindA (wpAny_specialOf hT slot_ba_init.lookup ?_)
      dsimp only
      refine wpC_holding ?_
      rw [slot_ba_init.bind]
      refine wpC_bindA (wpAny_of_eq rfl ?_)
      dsimp only
      refine wpC_bind (ba_init hS fun h' a1 a2 => ?_)
      refine wpC_of (wpAny_pure ?_)
      dsimp only
      rw [if_neg (by decide)]
      refine wpC_of (wpAny_pure ?_)
      exact hQ h' a1 fun b o e => (a2.2 b (Nat.ne_of_lt (Heap.lt_size e))).trans (Heap.get?_push_of_some _ e)
    | _ => exact hr.elim
end

end
theorem off_bar : True := by
  k_with "off_bar" => skip
  trivial


theorem fresh_bar2 {prog : Program} {w : World} {A : Around} {E : Value → Shared → Prop} {s : Shared} {env : Env} {Q : Flow → Shared → Prop} (h : Q .next s) : wpAny (model prog w) A (execs [] env) Q E s := by
  w_top off
  first | (walk1; done) | (walk1; exact h) | exact wpAny_execs_nil h
section
/-! the bytearray's methods are found; bytes of a bytearray -/
theorem plainAttrs_ba : PlainAttrs "bytearray" :=
  ⟨⟨"bytearray.__getattribute__", by rw [typeLookup_type, builtinLookup_eq_fast]; kernel_rfl, by decide +kernel⟩, by rw [typeLookup_type, builtinLookup_eq_fast]; kernel_rfl⟩
theorem type_ba_append : typeOf (.builtin "bytearray.append") = pure (.type "method_descriptor") := by show builtinType _ = _; rw [builtinType_eq_fast]; kernel_rfl
theorem type_ba_extend : typeOf (.builtin "bytearray.extend") = pure (.type "method_descriptor") := by show builtinType _ = _; rw [builtinType_eq_fast]; kernel_rfl
theorem ba_no_bytes : typeLookup (.type "bytearray") "__bytes__" = pure none := by rw [typeLookup_type, builtinLookup_eq_fast]; kernel_rfl
theorem ba_no_index : typeLookup (.type "bytearray") "__index__" = pure none := by rw [typeLookup_type, builtinLookup_eq_fast]; kernel_rfl
theorem ba_buffer : typeLookup (.type "bytearray") "__buffer__" = pure (some (.builtin "bytearray.__buffer__")) := by rw [typeLookup_type, builtinLookup_eq_fast]; kernel_rfl
section
variable {M : Model} {A : Around} {E : Value → Shared → Prop} {s : Shared} {S : Addr} {b : Array UInt8}
theorem method_ba_append {pl : Sem Bool} {Q : Value × List Value → Shared → Prop} (hS : s.heap.get? S = some (baObj b)) (h : Q (.builtin "bytearray.append", [.ref S]) s) : wpAny M A (getMethod (.ref S) "append" pl) Q E s :=
  getMethod_builtin (typeIs_ba hS) plainAttrs_ba slot_ba_append type_ba_append (fun a e => by cases e; exact ⟨_, hS, rfl⟩) h
theorem method_ba_extend {pl : Sem Bool} {Q : Value × List Value → Shared → Prop} (hS : s.heap.get? S = some (baObj b)) (h : Q (.builtin "bytearray.extend", [.ref S]) s) : wpAny M A (getMethod (.ref S) "extend" pl) Q E s :=
  getMethod_builtin (typeIs_ba hS) plainAttrs_ba slot_ba_extend type_ba_extend (fun a e => by cases e; exact ⟨_, hS, rfl⟩) h
theorem ba_slotIsOwn {Q : Bool → Shared → Prop} (hS : s.heap.get? S = some (baObj b)) (h : Q true s) : wpAny M A (Builtin.Bytes.slotIsOwn (.ref S) "__buffer__") Q E s := by
  have key : ∀ x : String, x = "bytearray" → wpAny M A (isInstance (.ref S) (.type x)) Q E s := fun x hx => by
    rw [hx]; exact wpAny_isInstance (typeIs_ba hS) called_ba.sub h
  unfold Builtin.Bytes.slotIsOwn
  refine wpAny_bind (wpAny_specialOf (typeIs_ba hS) ba_buffer ?_)
  dsimp only
  split
  · rename_i hx; exact absurd hx (by decide +kernel)
  · exact key _ (by decide +kernel)
theorem ba_buffer_of {id : String} {full : Bool} {Q : Option (Array UInt8) → Shared → Prop} (hS : s.heap.get? S = some (baObj b)) (h : Q (some b) s) : wpAny M A (Builtin.Bytes.buffer? id (.ref S) full) Q E s := by
  unfold Builtin.Bytes.buffer?
  refine wpAny_bind (wpAny_specialOf (typeIs_ba hS) ba_buffer ?_)
  refine wpAny_bind (m := Builtin.Bytes.slotIsOwn (.ref S) "__buffer__") (ba_slotIsOwn hS ?_)
  refine bm_if_false rfl ?_
  refine wpAny_bind (wpAny_specialOf (typeIs_ba hS) ba_buffer ?_)
  refine wpAny_bind (m := Builtin.Bytes.ownRelease (.ref S)) (ba_ownRelease hS ?_)
  refine bm_if_false rfl ?_
  exact wpAny_bind (m := Builtin.Bytes.payload (.ref S)) (wpAny_bind (wpAny_bind (wpAny_load hS (wpAny_pure (wpAny_pure (wpAny_pure h))))))
end
section
variable {prog : Program} {w : World} {A : Around} {E : Value → Shared → Prop} {s : Shared} {S : Addr} {b : Array UInt8}
theorem ba_bytes_new {Q : Value → Shared → Prop} (hS : s.heap.get? S = some (baObj b)) (hz : b.size ≤ sizeLine) (h : ∀ t k, Q (.bytes b t) { s with toks := k }) :
    codeAny (model prog w) A (.call (.builtin "bytes.__new__") ⟨[.type "bytes", .ref S], []⟩) (wants Q E) s := by
  refine codeAny_of_tree ?_
  show wpAny _ A.in1 (do checkBuiltinCall "bytes.__new__" ⟨[.type "bytes", .ref S], []⟩; again (.builtin "bytes.__new__" ⟨[.type "bytes", .ref S], []⟩)) _ _ s
  refine wpAny_bind (wpAny_of_eq (F.bm_newCall _) (wpAny_pure ⟨plainId_quiet F.bm_plain _, codeAny_builtin F.bm_entry ?_⟩))
  rw [Around.under_plainId F.bm_plain _]
  have hT := typeIs_ba hS
  unfold Builtin.«bytes.__new__»
  refine wpAny_bind (wpAny_of_eq (a := true) rfl ?_)
  refine bm_if_false rfl ?_
  refine wpAny_bind (wpAny_of_eq F.bm_sub ?_)
  refine bm_if_false rfl ?_
  refine wpAny_bind (wpAny_of_eq (F.bm_bind _) ?_)
  refine wpAny_bind (wpAny_of_eq (a := ()) rfl ?_)
  refine wpAny_bind (wpAny_of_eq (a := ()) rfl ?_)
  refine bm_if_false rfl ?_
  refine wpAny_bind (wpAny_specialOf hT ba_no_bytes ?_)
  refine wpAny_bind (wpAny_bind ?_)
  show wpAny _ _ (load S >>= _) _ _ _
  refine wpAny_bind (wpAny_load hS ?_)
  refine wpAny_pure (wpAny_pure ?_)
  refine bm_if_false rfl ?_
  refine wpAny_bind (wpAny_specialOf hT ba_no_index ?_)
  refine bm_if_true rfl ?_
  first
    | show wpAny _ _ (Builtin.Bytes.buffer? "bytes.__new__" (.ref S) true >>= _) _ _ _
    | (refine wpAny_bind ?_; show wpAny _ _ (Builtin.Bytes.buffer? "bytes.__new__" (.ref S) true >>= _) _ _ _)
  refine wpAny_bind (ba_buffer_of hS ?_)
  dsimp only
  refine wpAny_bind (wpAny_rule ?_)
  refine wpAny_bind (wpAny_mkBytes ?_ hz)
  show wpAny _ _ (if (Value.type "bytes" == Value.type "bytes") = true then _ else _) _ _ _
  refine bm_if_true (by decide) ?_
  first
    | exact wpAny_pure (wpAny_pure (h _ _))
    | exact wpAny_bind (wpAny_pure (wpAny_pure (h _ _)))
    | exact wpAny_pure (h _ _)
theorem call_bytes_ba {Q : Value → Shared → Prop} (hS : s.heap.get? S = some (baObj b)) (hz : b.size ≤ sizeLine) (hQ : ∀ t k, Q (.bytes b t) { s with toks := k }) :
    wpAny (model prog w) A (call (.type "bytes") [.ref S]) Q E s := by
  refine callType_codes (Q₁ := fun obj s₁ => s₁.TypeIs obj "bytes" ∧ Q obj s₁) F.bm_called (F.bm_typeCall _) F.entry_object_init
    (ba_bytes_new hS hz fun t k => ⟨typeIs_bytes _ _ _, hQ t k⟩) fun obj s₁ h₁ => ?_
  exact ⟨h₁.1, F.args_object_init_2 obj _, object_init_meets F.bm_called.init.lookup F.bm_called.made (by decide) prog w A.in1 _ s₁ ⟨h₁.1, rfl, h₁.2⟩⟩
end

end
theorem off_bar2 : True := by
  k_with "off_bar2" => skip
  trivial


theorem fresh_enterc {prog : Program} {w : World} {A : Around} {E : Value → Shared → Prop} {s : Shared} {env : Env} {Q : Flow → Shared → Prop} (h : Q .next s) : wpAny (model prog w) A (execs [] env) Q E s := by
  w_top off
  first | (walk1; done) | (walk1; exact h) | exact wpAny_execs_nil h
section
/-! calls over clean contexts: a plain def with a chosen ledger, and the law's own frame with its cells -/
section
variable {prog : Program} {w : World} {A₀ A : Around} {s : Shared} {base h₀ : Heap} {outer : List Env} {L : Addr} {m : Str → Option Value} {env : Env} {K : Frag} {p : Program} {loose : List Str} {mean : ExcName → Option Value} {mg mb : Str → Option Value}
  {R : Result → Shared → Prop} {name qual : Str} {params : Arguments} {body : List Stmt} {scope : Scope} {dV kV doc pm cdv ct oc : Value} {an od : Option Addr} {osl : Array (Option Value)} {f : Addr} {args : Args} {binds : List (Str × Value)}
theorem codeC_call_def {a : Addr} {o : Obj} {fd : FuncData} (hroom : A.depth < recursionLimit) (ho : s.heap.get? a = some o) (hdata : o.data = .func fd) (hlim : s.heap.NoLimit) (hcd : s.heap.CodeRec fd.code fd.qualname)
    (hbody : fd.body = .stmts body) (hbind : BindsTo s fd args binds) (hcell : ∀ x ∈ fd.scope.names, x.2 ≠ .cell) (hloc : ∀ x ∈ binds, fd.scope.names.lookup x.1 = some .local)
    (h : ∀ h₀, h₀.Ns s.heap.objs.size (fun x => binds.reverse.lookup x) → (∀ b o, s.heap.get? b = some o → h₀.get? b = some o) →
      wpC (model prog w) (A.deeper (callEnv fd s.heap.objs.size a)) (execs body (callEnv fd s.heap.objs.size a)) (fun f s' => R (.ok (.ret (match f with | .ret v => v | _ => .none))) s')
        (fun e s' => wpAny (model prog w) (A.deeper (callEnv fd s.heap.objs.size a)) (leaving (callEnv fd s.heap.objs.size a) e) (fun _ s'' => R (.error e) s'') (fun e' s'' => R (.error e') s'') s')
        { s with heap := h₀, toks := s.toks + binds.length })
    (hco : fd.scope.isCoroutine = false) (hgen : fd.scope.isGenerator = false) (hk : fd.scope.kind = .function) :
    codeC (model prog w) A (.call (.ref a) args) R s := by
  refine codeC_call_function hroom ho hdata hco hgen hbody hcd (hbind _ _ _ _ ?_)
  refine wpAny_newFunctionEnv hcell hloc (fun h₀ hns₀ hsb₀ => ⟨hlim.fresh _ hsb₀, codeC_func (h h₀ hns₀ fun b o e => ?_)⟩) hk
  exact hsb₀.extBut b o (Nat.ne_of_lt (Heap.lt_size e)) (Heap.get?_push_of_some _ e)
theorem enterC (B : Below A₀ base outer h₀) (F : Fr h₀ L s.heap m) (X₀ : K.In h₀) (T : Top p loose mean mg mb h₀) (hA : A.frames = some (env :: outer)) (hf : env.frame = some L) (hke : env.scope.kind = .function)
    (news : List (Addr × Obj)) (N : News h₀ L s.heap news)
    (ho : K.lookup f = some ⟨oc, od, .func (fnOf name qual params body scope dV kV doc pm an cdv ct), osl⟩) (hcd : codeIn K cdv qual = true) (hroom : A.depth < recursionLimit)
    (hbind : BindsTo s (fnOf name qual params body scope dV kV doc pm an cdv ct) args binds) (hloc : ∀ y ∈ binds, scope.names.lookup y.1 = some .local)
    (h : ∀ g L' h₁, g = hideAll s.heap (news.map (·.1)) → Fr g L' h₁ (fun y => binds.reverse.lookup y) → News g L' h₁ news → (∀ p ∈ news, p.1 < L') → Below A base (env :: outer) g → K.In g → Top p loose mean mg mb g →
      wpC (model prog w) (A.deeper (envOf qual scope L' f cdv)) (execs body (envOf qual scope L' f cdv))
        (fun fl s' => R (.ok (.ret (match fl with | .ret v => v | _ => .none))) s')
        (fun e s' => wpAny (model prog w) (A.deeper (envOf qual scope L' f cdv)) (leaving (envOf qual scope L' f cdv) e) (fun _ s'' => R (.error e) s'') (fun e' s'' => R (.error e') s'') s')
        { s with heap := h₁, toks := s.toks + binds.length })
    (hco : scope.isCoroutine = false) (hgen : scope.isGenerator = false) (hk : scope.kind = .function)
    (hcell : ∀ x ∈ scope.names, x.2 ≠ .cell) : codeC (model prog w) A (.call (.ref f) args) R s := by
  obtain ⟨FG, BG, st, lv⟩ := groundX (R := R) B F N hA hf hke
  refine codeC_call_def (fd := fnX name qual params body scope [] dV kV doc pm an cdv ct) (body := body) (binds := binds) hroom ((X₀.keeps F.keep) _ _ ho) rfl (T.nolimit.keeps F.keep) (codeRec_of (X₀.keeps F.keep) hcd) rfl hbind hcell hloc (fun h₁ hns hk₁ => ?_) hco hgen hk
  exact h _ s.heap.objs.size h₁ rfl ⟨hns, fun b o e => hk₁ b o (of_hideAll _ e), Nat.le_of_eq (hideAll_size _ _)⟩
    (fun p hp => ⟨hk₁ _ _ (N p hp).1, Nat.ne_of_lt (Heap.lt_size (N p hp).1), hideAll_none _ (List.mem_map_of_mem hp)⟩) (fun p hp => Heap.lt_size (N p hp).1) BG (X₀.keeps st) (T.keeps st)
theorem enterC0 (B : Below A₀ base outer h₀) (F : Fr h₀ L s.heap m) (X₀ : K.In h₀) (T : Top p loose mean mg mb h₀) (hA : A.frames = some (env :: outer)) (hf : env.frame = some L) (hke : env.scope.kind = .function)
    (ho : K.lookup f = some ⟨oc, od, .func (fnOf name qual params body scope dV kV doc pm an cdv ct), osl⟩) (hcd : codeIn K cdv qual = true) (hroom : A.depth < recursionLimit)
    (hbind : BindsTo s (fnOf name qual params body scope dV kV doc pm an cdv ct) args binds) (hloc : ∀ y ∈ binds, scope.names.lookup y.1 = some .local)
    (h : ∀ L' h₁, Fr s.heap L' h₁ (fun y => binds.reverse.lookup y) → News s.heap L' h₁ [] → Below A base (env :: outer) s.heap → K.In s.heap → Top p loose mean mg mb s.heap →
      wpC (model prog w) (A.deeper (envOf qual scope L' f cdv)) (execs body (envOf qual scope L' f cdv))
        (fun fl s' => R (.ok (.ret (match fl with | .ret v => v | _ => .none))) s')
        (fun e s' => wpAny (model prog w) (A.deeper (envOf qual scope L' f cdv)) (leaving (envOf qual scope L' f cdv) e) (fun _ s'' => R (.error e) s'') (fun e' s'' => R (.error e') s'') s')
        { s with heap := h₁, toks := s.toks + binds.length })
    (hco : scope.isCoroutine = false) (hgen : scope.isGenerator = false) (hk : scope.kind = .function)
    (hcell : ∀ x ∈ scope.names, x.2 ≠ .cell) : codeC (model prog w) A (.call (.ref f) args) R s :=
  enterC B F X₀ T hA hf hke [] News.nil ho hcd hroom hbind hloc (fun g L' h₁ hg F' N' _ B' X' T' => by cases hg; exact h L' h₁ F' N' B' X' T') hco hgen hk hcell
theorem lawC {a : Addr} {o : Obj} {pm cd doc : Value} {vs : List Value} (hroom : A.depth < recursionLimit) (ho : s.heap.get? a = some o) (hdata : o.data = .func (docDef name params body scope pm cd doc)) (hlim : s.heap.NoLimit) (hcd : s.heap.CodeRec cd name)
    (hbind : bindArgs (docDef name params body scope pm cd doc) ⟨vs, []⟩ = pure binds)
    (hkind : ∀ x ∈ binds, scope.names.lookup x.1 = some .local ∨ (scope.names.lookup x.1 = some .cell ∧ ((cellsFrom (s.heap.objs.size + 1) scope.names []).lookup x.1).isSome = true))
    (hnd : ((cellsFrom 0 scope.names []).map (·.1)).Nodup)
    (h : ∀ h₁ tk cells, Fr s.heap s.heap.objs.size h₁ (bindL (envOfC name scope s.heap.objs.size a cd).kindOf binds fun _ => none) → News s.heap s.heap.objs.size h₁ cells →
      CellsAre (bindC (envOfC name scope s.heap.objs.size a cd).kindOf binds fun _ => none) (cellsFrom (s.heap.objs.size + 1) scope.names []) cells →
      wpC (model prog w) (A.deeper (envOfC name scope s.heap.objs.size a cd)) (execs body (envOfC name scope s.heap.objs.size a cd))
        (fun f s' => R (.ok (.ret (match f with | .ret v => v | _ => .none))) s')
        (fun e s' => wpAny (model prog w) (A.deeper (envOfC name scope s.heap.objs.size a cd)) (leaving (envOfC name scope s.heap.objs.size a cd) e)
          (fun _ s'' => R (.error e) s'') (fun e' s'' => R (.error e') s'') s')
        { s with heap := h₁, toks := tk })
    (hco : scope.isCoroutine = false) (hgen : scope.isGenerator = false) (hk : scope.kind = .function) :
    codeC (model prog w) A (.call (.ref a) ⟨vs, []⟩) R s := by
  refine codeC_call_function (fd := docDef name params body scope pm cd doc) hroom ho hdata hco hgen rfl hcd ?_
  rw [hbind]
  refine wpAny_pure ?_
  refine wpAny_newFunctionEnv_cells hk hkind fun env' he s' X => ?_
  subst he
  refine ⟨hlim.keeps X.toInCall.keep, codeC_func ?_⟩
  obtain ⟨h₁, tk, rfl, _⟩ := X.done
  obtain ⟨cells, N, Y⟩ := Cl.news (h₀ := s.heap) (Nat.le_refl _) fun n c hm => ⟨X.cell n c (lookup_of_mem_nodup (cellsFrom_names scope.names 0 (s.heap.objs.size + 1) [] [] rfl ▸ hnd) hm), X.above n c hm⟩
  exact h h₁ tk cells ⟨X.toInCall.ns, X.toInCall.keep, X.toInCall.fresh⟩ N Y
end

end
theorem off_enterc : True := by
  k_with "off_enterc" => skip
  trivial


theorem fresh_pool {prog : Program} {w : World} {A : Around} {E : Value → Shared → Prop} {s : Shared} {env : Env} {Q : Flow → Shared → Prop} (h : Q .next s) : wpAny (model prog w) A (execs [] env) Q E s := by
  w_top off
  first | (walk1; done) | (walk1; exact h) | exact wpAny_execs_nil h
section
/-! «_law_pool»: two ints in a new list -/
theorem big_mul (c : Int) (b : Prop) [Decidable b] : 0 ≤ (if -1 - c > c then -1 - c else c) * (if b then 1 else 0) := by
  have h : 0 ≤ (if -1 - c > c then -1 - c else c) := by split <;> omega
  by_cases hb : b
  · rw [if_pos hb]; omega
  · rw [if_neg hb]; omega
theorem newHead {h₀ h : Heap} {L a : Addr} {o : Obj} {rest : List (Addr × Obj)} (N : News h₀ L h ((a, o) :: rest)) : h₀.get? a = none := (N (a, o) (.head _)).2.2
section
variable {prog : Program} {w : World} {p : Program} {loose : List Str} {mean : ExcName → Option Value} {mg mb : Str → Option Value} {dp un : Nat} {gd : Option (List Code)} {cn : Str} {cs : Scope} {a : Addr} {ccd : Value} {cl : List (Str × Addr)} {outer : List Env} {A₀ : Around} {base h₀ : Heap} {L : Addr} {m : Str → Option Value} {s : Shared} {Q E : Value → Shared → Prop}
variable (B : Below A₀ base outer h₀) (F : Fr h₀ L s.heap m) (X : (hd.heap_1 w.params).In h₀) (T : Top p loose mean mg mb h₀) (hk : cs.kind = .function)
include B F X T hk
set_option maxHeartbeats 4000000 in
theorem pool_spec {S : Addr} {vs : List Value} {ns : List Int} {t0 : Tok} (hl : s.heap.IsList S vs.toArray) (hi : IntsAre vs ns) (hz : vs.toArray.size ≤ 1000000) (hzn : vs.toArray.size = ns.length)
    (hdp : dp + 1 < recursionLimit) (hun : un + 8 < cLine)
    (ret : ∀ D x tx y ty h' tk' n, 0 ≤ x → 0 ≤ y → y < 2147483647 → s.heap.get? D = none → (∀ b o, s.heap.get? b = some o → h'.get? b = some o) → h'.get? D = some (listOf #[.int x tx, .int y ty] n) → Q (.ref D) { s with heap := h', toks := tk' }) :
    wpAny (model prog w) (ktrTop dp un gd cn cs L a ccd cl outer) (call (.ref 350) [.ref S, .int 0 t0]) Q E s := by
  refine wpAny_call ?_
  k_dflt cell_enter
  k_steps
  all_goals exact ret _ _ _ _ _ _ _ _ (big_mul _ _) (fmod_lo _ (by decide)) (fmod_hi _ (by decide)) (newHead (by assumption)) (Fr.keep (by assumption)) (News.get (by assumption) (.head _))
end

end
theorem off_pool : True := by
  k_with "off_pool" => skip
  trivial


theorem fresh_one {prog : Program} {w : World} {A : Around} {E : Value → Shared → Prop} {s : Shared} {env : Env} {Q : Flow → Shared → Prop} (h : Q .next s) : wpAny (model prog w) A (execs [] env) Q E s := by
  w_top off
  first | (walk1; done) | (walk1; exact h) | exact wpAny_execs_nil h
section
/-! «_law_one» -/
theorem upd1 {h₀ h h' : Heap} {L D : Addr} {m : Str → Option Value} {o o' : Obj} (F : Fr h₀ L h m) (N : News h₀ L h [(D, o)]) (hk : ∀ b x, b ≠ D → h.get? b = some x → h'.get? b = some x) (he : h'.get? D = some o') : Fr h₀ L h' m ∧ News h₀ L h' [(D, o')] :=
  exc_upd F N (fun _ h => nomatch h) hk he
theorem headGet {h₀ h : Heap} {L D : Addr} {o : Obj} {rest : List (Addr × Obj)} (N : News h₀ L h ((D, o) :: rest)) : h.get? D = some o := (N (D, o) (.head _)).1
theorem headNe {h₀ h : Heap} {L D : Addr} {o : Obj} {rest : List (Addr × Obj)} (N : News h₀ L h ((D, o) :: rest)) : D ≠ L := (N (D, o) (.head _)).2.1
theorem word_w10 : True := by
  k_with "call ref" => ((fail_if_success k_extra "off_one"); k_here; (with_reducible show wpAny _ _ (call (Value.ref 357) [Value.ref _, Value.int _ _]) _ _ _); k_dflt (refine' take_spec ?B ?F ?X ?T ?hk ?hD ?hDL ?hD0 ?hdp ?hun ?hx ?hy ?hy2 ?ht ?ht2 ?_; (case B => assumption); (case F => k_asm); (case X => k_asm); (case T => k_asm); (case hk => exact rfl); (case hD => exact headGet (by assumption)); (case hDL => exact headNe (by assumption)); (case hD0 => exact newHead (by assumption)); (case hdp => ktr_room); (case hun => ktr_units); (case hx => assumption); (case hy => assumption); (case hy2 => assumption); (case ht => (simp only [List.size_toArray] at *; omega)); (case ht2 => (simp only [List.size_toArray] at *; omega)); k_whole); intro r t x' tx' y' ty' h' tk' r0 r1 x0 y0 y1 kp hD'; (obtain ⟨F', N'⟩ := upd1 (by k_asm) (by assumption) kp hD'); (revert r t x' tx' y' ty' h' tk' r0 r1 x0 y0 y1 kp hD' F' N'; intros); k_sweep)
  trivial
theorem item_any {prog : Program} {w : World} {A : Around} {E : Value → Shared → Prop} {s : Shared} {value slice : PySem.Expr} {l : Addr} {vs : List Value} {k : Int} {u : Tok} {Q : Value → Shared → Prop}
    (hl : s.heap.IsList l vs.toArray) (h0 : 0 ≤ k) (h1 : k < (vs.toArray.size : Int)) (hz : vs.toArray.size < 1000000) (h : ∀ v, vs[k.toNat]? = some v → Q v s)
    (hs : subscripted slice false (.ref l) (.int k u) = operate [.ref l, .int k u] (getItem (.ref l) (.int k u)) := by with_unfolding_all rfl) (hg : ∀ r, letTemporaryGo value (.ref l) r = pure () := by intro _; with_unfolding_all rfl) :
    wpAny (model prog w) A (subscriptTail value slice (.ref l) (.int k u)) Q E s := by
  have hlt : k.toNat < vs.length := by simp only [List.size_toArray] at h1; omega
  exact item_list hl h0 (by omega) (by simpa using List.getElem?_eq_getElem hlt) (h _ (List.getElem?_eq_getElem hlt)) hs hg
theorem word_w11 : True := by
  k_with "subscriptTail" => ((fail_if_success k_extra "off_one"); k_here; (with_reducible show wpAny _ _ (subscriptTail _ _ (Value.ref _) (Value.int _ _)) _ _ _); with_unfolding_all refine' item_any (Fr.lst (by assumption) (by assumption)) (by assumption) (by assumption) (by assumption) ?_ ?k4 ?k5; (case k4 => with_unfolding_all rfl); (case k5 => intro _; with_unfolding_all rfl); k_whole; intro v' hv'; (revert v' hv'; intros))
  trivial
section
variable {prog : Program} {w : World} {p : Program} {loose : List Str} {mean : ExcName → Option Value} {mg mb : Str → Option Value} {dp un : Nat} {gd : Option (List Code)} {cn : Str} {cs : Scope} {a : Addr} {ccd : Value} {cl : List (Str × Addr)} {outer : List Env} {A₀ : Around} {base h₀ : Heap} {L : Addr} {m : Str → Option Value} {s : Shared} {Q E : Value → Shared → Prop}
variable (B : Below A₀ base outer h₀) (F : Fr h₀ L s.heap m) (X : (hd.heap_1 w.params).In h₀) (T : Top p loose mean mg mb h₀) (hk : cs.kind = .function)
include B F X T hk
set_option maxHeartbeats 4000000 in
theorem one_spec {D S : Addr} {n : Nat} {x y : Int} {tx ty : Tok} {vs : List Value} (hD : s.heap.get? D = some (listOf #[.int x tx, .int y ty] n)) (hDL : D ≠ L) (hD0 : h₀.get? D = none)
    (hl : s.heap.IsList S vs.toArray) (hSD : S ≠ D) (hz : 0 < vs.length) (hz2 : vs.toArray.size < 1000000)
    (hdp : dp + 2 < recursionLimit) (hun : un + 16 < cLine) (hx : 0 ≤ x) (hy : 0 ≤ y) (hy2 : y < 2147483647)
    (ret : ∀ (r : Nat) v x' tx' y' ty' h' tk', vs[r]? = some v → 0 ≤ x' → 0 ≤ y' → y' < 2147483647 → (∀ b o, b ≠ D → s.heap.get? b = some o → h'.get? b = some o) → h'.get? D = some (listOf #[.int x' tx', .int y' ty'] n) → Q v { s with heap := h', toks := tk' }) :
    wpAny (model prog w) (ktrTop dp un gd cn cs L a ccd cl outer) (call (.ref 364) [.ref D, .ref S]) Q E s := by
  refine wpAny_call ?_
  k_dflt (refine' enter ?k1 ?k2 ?k3 ?k5 ?kA ?kF ?kK [(D, listOf #[.int x tx, .int y ty] n)] (news1 hD hDL hD0) ?k6 ?k7 ?k8 ?k9 ?kB ?_ ?c2 ?c3 ?c4 ?c5; (case kA => exact rfl); (case kF => exact rfl); (case kK => assumption); (case k1 => k_asm); (case k2 => k_asm); (case k3 => k_asm); (case k5 => k_asm); (case k6 => k_is); (case k7 => k_is); (case k8 => ktr_room); (case k9 => exact BindsTo.of_eq rfl); (case c5 => decide); (case kB => exact locs rfl); (case c2 => exact rfl); (case c3 => exact rfl); (case c4 => exact rfl); k_whole; intro g' L' h' hg' F' N' l1 B' X' T'; (try dsimp only); (try k_fold))
  have hh := hide1 hg'
  have hl' : g'.IsList S vs.toArray := (by obtain ⟨o, ho, r⟩ := hl; exact ⟨o, hh S o hSD ho, r⟩)
  clear hg' hl
  k_steps
  have hG := headGet ‹News _ _ _ _›
  exact ret _ _ _ _ _ _ _ _ (by assumption) (by assumption) (by assumption) (by assumption) (fun b o hb e => Fr.keep (by assumption) b o (hh b o hb e)) hG
end

end
theorem off_one : True := by
  k_with "off_one" => skip
  trivial


theorem fresh_cells {prog : Program} {w : World} {A : Around} {E : Value → Shared → Prop} {s : Shared} {env : Env} {Q : Flow → Shared → Prop} (h : Q .next s) : wpAny (model prog w) A (execs [] env) Q E s := by
  w_top off
  first | (walk1; done) | (walk1; exact h) | exact wpAny_execs_nil h
section
/-! a call of a def whose frame has cells, the ledger chosen; turns of a comprehension by an invariant -/
section
variable {prog : Program} {w : World} {A₀ A : Around} {s : Shared} {base h₀ : Heap} {outer : List Env} {L : Addr} {m : Str → Option Value} {env : Env} {K : Frag} {p : Program} {loose : List Str} {mean : ExcName → Option Value} {mg mb : Str → Option Value}
  {R : Result → Shared → Prop} {name qual : Str} {params : Arguments} {body : List Stmt} {scope : Scope} {dV kV doc pm cdv ct oc : Value} {an od : Option Addr} {osl : Array (Option Value)} {f : Addr} {args : Args} {binds : List (Str × Value)}
theorem enter_cells (B : Below A₀ base outer h₀) (F : Fr h₀ L s.heap m) (X₀ : K.In h₀) (T : Top p loose mean mg mb h₀) (hA : A.frames = some (env :: outer)) (hf : env.frame = some L) (hke : env.scope.kind = .function)
    (news : List (Addr × Obj)) (N : News h₀ L s.heap news)
    (ho : K.lookup f = some ⟨oc, od, .func (fnOf name qual params body scope dV kV doc pm an cdv ct), osl⟩) (hcd : codeIn K cdv qual = true) (hroom : A.depth < recursionLimit)
    (hbind : BindsTo s (fnOf name qual params body scope dV kV doc pm an cdv ct) args binds) (hkind : (binds.all fun y => scope.names.lookup y.1 == some .local || scope.names.lookup y.1 == some .cell) = true)
    (hnd : ((cellsFrom 0 scope.names []).map (·.1)).Nodup)
    (h : ∀ g L' h₁ tk cells, g = hideAll s.heap (news.map (·.1)) → Fr g L' h₁ (bindL (envOfC qual scope L' f cdv).kindOf binds fun _ => none) → News g L' h₁ (cells ++ news) →
      CellsAre (bindC (envOfC qual scope L' f cdv).kindOf binds fun _ => none) (cellsFrom (L' + 1) scope.names []) cells → (∀ p ∈ news, p.1 < L') → Below A base (env :: outer) g → K.In g → Top p loose mean mg mb g →
      wpAny (model prog w) (A.deeper (envOfC qual scope L' f cdv)) (execs body (envOfC qual scope L' f cdv))
        (fun fl s' => R (.ok (.ret (match fl with | .ret v => v | _ => .none))) s')
        (fun e s' => wpAny (model prog w) (A.deeper (envOfC qual scope L' f cdv)) (leaving (envOfC qual scope L' f cdv) e) (fun _ s'' => R (.error e) s'') (fun e' s'' => R (.error e') s'') s')
        { s with heap := h₁, toks := tk })
    (hco : scope.isCoroutine = false) (hgen : scope.isGenerator = false) (hk : scope.kind = .function) : codeAny (model prog w) A (.call (.ref f) args) R s := by
  obtain ⟨FG, BG, st, lv⟩ := groundX (R := R) B F N hA hf hke
  refine codeAny_call_function hroom ((X₀.keeps F.keep) _ _ ho) rfl hco hgen rfl (codeRec_of (X₀.keeps F.keep) hcd) (hbind _ _ _ _ ?_)
  refine wpAny_newFunctionEnv_cells hk (kindsX hkind _) fun env' he s' x => ?_
  subst he
  refine ⟨(T.nolimit.keeps F.keep).keeps x.toInCall.keep, codeAny_func ?_⟩
  obtain ⟨h₁, tk, rfl, _⟩ := x.done
  have hk₁ := x.toInCall.keep
  obtain ⟨cells, NC, Y⟩ := Cl.news (h₀ := s.heap) (Nat.le_refl _) fun n c hm => ⟨x.cell n c (lookup_of_mem_nodup (cellsFrom_names scope.names 0 (s.heap.objs.size + 1) [] [] rfl ▸ hnd) hm), x.above n c hm⟩
  refine h _ s.heap.objs.size h₁ tk cells rfl ⟨x.toInCall.ns, fun b o e => hk₁ b o (of_hideAll _ e), Nat.le_of_eq (hideAll_size _ _)⟩ (fun p hp => ?_) Y (fun p hp => Heap.lt_size (N p hp).1) BG (X₀.keeps st) (T.keeps st)
  rcases List.mem_append.mp hp with hp | hp
  · refine ⟨(NC p hp).1, (NC p hp).2.1, ?_⟩
    cases q : (hideAll s.heap (news.map (·.1))).get? p.1 with
    | none => rfl
    | some o => have := of_hideAll _ q; rw [(NC p hp).2.2] at this; cases this
  · exact ⟨hk₁ _ _ (N p hp).1, Nat.ne_of_lt (Heap.lt_size (N p hp).1), hideAll_none _ (List.mem_map_of_mem hp)⟩
end
theorem compEnd_mono {h₀ : Heap} {L I C D : Addr} {m : Str → Option Value} {s₁ : Shared} {oI oC oD : Obj} {S : List (Addr × Obj) → Prop} {r r' : Value → List (Addr × Obj) → Prop} {y : Value} {s₂ : Shared}
    (h : LCg.CompEnd h₀ L m s₁ I oI C oC D oD S r y s₂) (k : ∀ n, S n → r y n → r' y n) : LCg.CompEnd h₀ L m s₁ I oI C oC D oD S r' y s₂ := by
  obtain ⟨h', tk, nw, e, F, N, o, hS, hr⟩ := h
  exact ⟨h', tk, nw, e, F, N, o, hS, k _ hS hr⟩
/-- the turns of a comprehension, of an unknown number, by what holds ahead of each -/
theorem compRest_ind {prog : Program} {w : World} {A : Around} {h₀ : Heap} {L : Addr} {m : Str → Option Value} {env : Env} {elt : PySem.Expr} {x : Str} {scope : Scope} {cl : List (Str × Addr)} {s : Shared} {S : List (Addr × Obj) → Prop} {P : Nat → Value → Prop}
    {Fin : List Value → List (Addr × Obj) → Prop} {n : Nat} (Inv : Nat → List Value → List (Addr × Obj) → Prop)
    (step : ∀ i ys news, i < n → Inv i ys news → ∀ v I oI C oC D m₂ h tk (E' : Value → Shared → Prop), P i v → LCg.NsObj oC m₂ → m₂ x = some v → Fr h₀ L h m → News h₀ L h ((I, oI) :: (C, oC) :: (D, LCg.lst ys) :: news) → LCg.Off3 I C D news → (@Ne Nat I C) → (@Ne Nat I D) → (@Ne Nat C D) →
      wpAny (model prog w) A (eval elt (compEnvC scope cl C env)) (LCg.CompEnd h₀ L m { s with heap := h, toks := tk } I oI C oC D (LCg.lst ys) S (fun y news' => Inv (i + 1) (ys ++ [y]) news')) E' { s with heap := h, toks := tk })
    (fin : ∀ ys news, Inv n ys news → Fin ys news) : ∀ k i ys news, i + k = n → Inv i ys news → LCg.CompRest prog w A h₀ L m env elt x scope cl s S P Fin k i ys news
  | 0, i, ys, news, hn, hI => by
    have : i = n := by omega
    subst this
    exact fin _ _ hI
  | k + 1, i, ys, news, hn, hI => by
    refine LCg.CompRest.succ fun v I oI C oC D m₂ h tk E' hP hC hx F N off ne => ?_
    refine wpAny_mono (step i ys news (by omega) hI v I oI C oC D m₂ h tk E' hP hC hx F N off ne.1 ne.2.1 ne.2.2) (fun y s₂ h₂ => ?_) fun _ _ e => e
    exact compEnd_mono h₂ fun nw _ hr => compRest_ind Inv step fin k (i + 1) (ys ++ [y]) nw (by omega) hr
theorem upd_news {h₀ h h' : Heap} {L D : Addr} {m : Str → Option Value} {o o' : Obj} {news : List (Addr × Obj)} {f : Obj → List (Addr × Obj)} (F : Fr h₀ L h m) (N : News h₀ L h news) (U : UpdF D o news f)
    (hk : ∀ b x, b ≠ D → h.get? b = some x → h'.get? b = some x) (he : h'.get? D = some o') : Fr h₀ L h' m ∧ News h₀ L h' (f o') := by
  obtain ⟨pre, post, e1, e2, h1, h2⟩ := U.split
  subst e1
  have z := N (D, o) (List.mem_append_right _ (.head _))
  obtain ⟨oL, a1, a2, hL, a3⟩ := F.ns
  refine ⟨⟨⟨oL, a1, a2, hk L oL (Ne.symm z.2.1) hL, a3⟩, fun b x q => hk b x (fun y => by subst y; have := z.2.2; rw [q] at this; cases this) (F.keep b x q), F.above⟩, fun p hp => ?_⟩
  rw [e2] at hp
  rcases List.mem_append.mp hp with hp | hp
  · have y := N p (List.mem_append_left _ hp)
    exact ⟨hk _ _ (h1 p hp) y.1, y.2⟩
  · rcases List.mem_cons.mp hp with rfl | hp
    · exact ⟨he, z.2⟩
    · have y := N p (List.mem_append_right _ (.tail _ hp))
      exact ⟨hk _ _ (h2 p hp) y.1, y.2⟩
theorem News.neAt {h₀ h : Heap} {L a : Addr} {o : Obj} {news : List (Addr × Obj)} (N : News h₀ L h news) (hm : (a, o) ∈ news) : a ≠ L := (N _ hm).2.1
theorem News.newAt {h₀ h : Heap} {L a : Addr} {o : Obj} {news : List (Addr × Obj)} (N : News h₀ L h news) (hm : (a, o) ∈ news) : h₀.get? a = none := (N _ hm).2.2
/-- the walker has no rule for it: it stops here -/
def Stop (P : Prop) : Prop := P
theorem stop_of {P : Prop} (h : Stop P) : P := h
theorem newOut {g h₀ h : Heap} {D T L : Addr} {oT oD : Obj} {news : List (Addr × Obj)} (hh : ∀ b x, b ≠ D → h₀.get? b = some x → g.get? b = some x) (N : News g L h news) (mT : (T, oT) ∈ news) (mD : (D, oD) ∈ news) (hc : oT.cls ≠ oD.cls) : h₀.get? T = none := by
  cases q : h₀.get? T with
  | none => rfl
  | some x =>
    have hne : T ≠ D := fun e => by
      have a := (N _ mT).1
      have b := (N _ mD).1
      dsimp only at a b
      rw [e, b] at a
      exact hc (by rw [Option.some.inj a])
    have := hh T x hne q
    rw [(N _ mT).2.2] at this; cases this
theorem ia_set : ∀ {ys : List Value} {ks : List Int} {k : Int} {t : Tok} (i : Nat), IntsAre ys ks → IntsAre (ys.set i (.int k t)) (ks.set i k)
  | _, _, _, _, _, .nil => .nil
  | _, _, _, _, 0, .cons _ _ h => .cons _ _ h
  | _, _, _, _, i + 1, .cons _ _ h => .cons _ _ (ia_set i h)
theorem ia_snoc : ∀ {ys : List Value} {ks : List Int} {k : Int} {t : Tok}, IntsAre ys ks → IntsAre (ys ++ [.int k t]) (ks ++ [k])
  | _, _, _, _, .nil => .cons _ _ .nil
  | _, _, _, _, .cons _ _ h => .cons _ _ (ia_snoc h)

end
theorem off_cells : True := by
  k_with "off_cells" => skip
  trivial


theorem word_w12 : True := by
  k_with "call ref" => (k_here; (with_reducible show wpAny _ _ (call (Value.ref 357) [Value.ref _, Value.int _ _]) _ _ _); k_dflt (refine' take_spec ?B ?F ?X ?T ?hk ?hD ?hDL ?hD0 ?hdp ?hun ?hx ?hy ?hy2 ?ht ?ht2 ?_; (case B => assumption); (case F => k_asm); (case X => k_asm); (case T => k_asm); (case hk => exact rfl); (case hD => exact News.get (by k_asm) (by k_mem)); (case hDL => exact News.neAt (by k_asm) (by k_mem)); (case hD0 => exact News.newAt (by k_asm) (by k_mem)); (case hdp => ktr_room); (case hun => ktr_units); (case hx => assumption); (case hy => assumption); (case hy2 => assumption); (case ht => omega); (case ht2 => omega); k_whole); intro r t x' tx' y' ty' h' tk' r0 r1 x0 y0 y1 kp hD'; (obtain ⟨F', N'⟩ := upd_news (by k_asm) (by k_asm) (by k_dflt k_updF) kp hD'); (try dsimp only at N'); (revert r t x' tx' y' ty' h' tk' r0 r1 x0 y0 y1 kp hD' F' N'; intros); k_sweep)
  trivial
theorem word_w13 : True := by
  k_with "ONE" => (k_dflt (refine' one_spec ?B ?F ?X ?T ?hk ?hD ?hDL ?hD0 ?hl ?hSD ?hz ?hz2 ?hdp ?hun ?hx ?hy ?hy2 ?_; (case B => assumption); (case F => k_asm); (case X => k_asm); (case T => k_asm); (case hk => exact rfl); (case hD => exact News.get (by k_asm) (by k_mem)); (case hDL => exact News.neAt (by k_asm) (by k_mem)); (case hD0 => exact News.newAt (by k_asm) (by k_mem)); (case hl => exact News.isList (by k_asm) (by k_mem)); (case hSD => k_ne); (case hz => exact Nat.succ_pos _); (case hz2 => exact Nat.le_of_ble_eq_true rfl); (case hdp => ktr_room); (case hun => ktr_units); (case hx => assumption); (case hy => assumption); (case hy2 => assumption)))
  trivial


theorem fresh_divisors {prog : Program} {w : World} {A : Around} {E : Value → Shared → Prop} {s : Shared} {env : Env} {Q : Flow → Shared → Prop} (h : Q .next s) : wpAny (model prog w) A (execs [] env) Q E s := by
  w_top off
  first | (walk1; done) | (walk1; exact h) | exact wpAny_execs_nil h
section
/-! «_law_divisors» -/
/-- ahead of each turn: the ints so far, the source's two ints -/
def DrawInv (D : Addr) (n : Nat) (lo hi : Int) (f : Obj → List (Addr × Obj)) (i : Nat) (ys : List Value) (nw : List (Addr × Obj)) : Prop :=
  ∃ ks x y tx ty, IntsAre ys ks ∧ ks.length = i ∧ (∀ k ∈ ks, lo ≤ k ∧ k ≤ hi) ∧ 0 ≤ x ∧ 0 ≤ y ∧ y < 2147483647 ∧ nw = f (listOf #[Value.int x tx, Value.int y ty] n)
theorem word_w14 : True := by
  k_with "exec Assign cons ListComp" => ((fail_if_success k_extra "off_divisors"); refine stop_of ?_)
  trivial
theorem word_w15 : True := by
  k_with "CompSrc" => ((fail_if_success k_extra "off_divisors"); refine stop_of ?_)
  trivial
section
variable {prog : Program} {w : World} {p : Program} {loose : List Str} {mean : ExcName → Option Value} {mg mb : Str → Option Value} {dp un : Nat} {gd : Option (List Code)} {cn : Str} {cs : Scope} {a : Addr} {ccd : Value} {cl : List (Str × Addr)} {outer : List Env} {A₀ : Around} {base h₀ : Heap} {L : Addr} {m : Str → Option Value} {s : Shared} {Q E : Value → Shared → Prop}
variable (B : Below A₀ base outer h₀) (F : Fr h₀ L s.heap m) (X : (hd.heap_1 w.params).In h₀) (T : Top p loose mean mg mb h₀) (hk : cs.kind = .function)
include B F X T hk
set_option maxHeartbeats 4000000 in
theorem divisors_spec {D : Addr} {n : Nat} {x y many : Int} {tx ty tm : Tok} (hD : s.heap.get? D = some (listOf #[.int x tx, .int y ty] n)) (hDL : D ≠ L) (hD0 : h₀.get? D = none)
    (hdp : dp + 4 < recursionLimit) (hun : un + 32 < cLine) (hx : 0 ≤ x) (hy : 0 ≤ y) (hy2 : y < 2147483647) (hm : 0 < many) (hm2 : many < 1000)
    (ret : ∀ T vs ns x' tx' y' ty' h' tk', IntsAre vs ns → (ns.length : Int) = many → (∀ k ∈ ns, 0 ≤ k ∧ k ≤ 65536) → s.heap.get? T = none → IsTup h' T vs.toArray → 0 ≤ x' → 0 ≤ y' → y' < 2147483647 → (∀ b o, b ≠ D → s.heap.get? b = some o → h'.get? b = some o) → h'.get? D = some (listOf #[.int x' tx', .int y' ty'] n) → Q (.ref T) { s with heap := h', toks := tk' }) :
    wpAny (model prog w) (ktrTop dp un gd cn cs L a ccd cl outer) (call (.ref 369) [.ref D, .int many tm]) Q E s := by
  refine wpAny_call ?_
  k_dflt (refine' enter_cells ?k1 ?k2 ?k3 ?k5 ?kA ?kF ?kK [(D, listOf #[.int x tx, .int y ty] n)] (news1 hD hDL hD0) ?k6 ?k7 ?k8 ?k9 ?kB ?kC ?_ ?c2 ?c3 ?c4; (case kA => exact rfl); (case kF => exact rfl); (case kK => assumption); (case k1 => k_asm); (case k2 => k_asm); (case k3 => k_asm); (case k5 => k_asm); (case k6 => k_is); (case k7 => k_is); (case k8 => ktr_room); (case k9 => exact BindsTo.of_eq rfl); (case kB => rfl); (case kC => decide); (case c2 => exact rfl); (case c3 => exact rfl); (case c4 => exact rfl); k_whole)
  intro g' L' h' tk1 cells hg' F' N' Y' l1 B' X' T'
  (try dsimp only); (try k_fold)
  cells_open Y'
  have hh := hide1 hg'
  have lD : @LT.lt Nat _ D L' := l1 _ (.head _)
  simp only [List.cons_append, List.nil_append] at N'
  clear hg' l1 hD
  k_steps
  walk_at "ONE"
  intro r v x' tx' y' ty' h' tk' hv x0 y0 y1 kp hD'
  (obtain ⟨F', N'⟩ := upd_news (by k_asm) (by k_asm) (by k_dflt k_updF) kp hD')
  (try dsimp only at N')
  k_sweep
  obtain ⟨mo, tmo, rfl, hmo, hmo2⟩ : ∃ mo t, v = Value.int mo t ∧ 9 ≤ mo ∧ mo ≤ 65535 := by
    match r, hv with
    | 0, hv => exact ⟨_, _, (Option.some.inj hv).symm, by decide, by decide⟩
    | 1, hv => exact ⟨_, _, (Option.some.inj hv).symm, by decide, by decide⟩
    | 2, hv => exact ⟨_, _, (Option.some.inj hv).symm, by decide, by decide⟩
    | 3, hv => exact ⟨_, _, (Option.some.inj hv).symm, by decide, by decide⟩
    | r + 4, hv => exact absurd hv (by simp)
  clear hv
  k_steps
  unfold Stop
  k_dflt (refine LCg.Assign_ListComp_U (F₀ := by k_asm) (by rfl) (by with_unfolding_all rfl) (by with_unfolding_all rfl) (by decide) (by rfl) (by decide) (by rfl) (by rfl) (by rfl) ?_)
  k_steps
  unfold Stop
  rename_i h3 w1 w0 cl1 cl0 l2 h2 ll h1 o2 F1 N1 dd h0 tk0 t1 u1 v1 hR F9 N9 a9
  refine LCg.CompSrc.range (n := many.toNat) rfl F9 N9 hR ?sm ?sz ?sl fun g => ?_
  case sm => exact PySem.small_one (by omega) (by omega) (by omega) (by omega)
  case sz => unfold Builtin.Range.rangeSize; simp; omega
  case sl => rw [sizeLine_eq]; omega
  refine compRest_ind (n := many.toNat) (DrawInv D n 1 65535 fun o => [(l2, listOf #[Value.int 9 tk1, Value.int 255 (tk1 + 1), Value.int 300 (tk1 + 1 + 1), Value.int 65535 (tk1 + 1 + 1 + 1)] 0), (L' + 1 + 1, o2), (L' + 1, w0), (D, o)]) ?_ ?_ _ 0 [] _ (Nat.zero_add _)
    ⟨[], x', y', tx', ty', .nil, rfl, by simp, x0, y0, y1, rfl⟩
  · rintro i ys nw hi ⟨ks, x, y, tx, ty, hA, hL, hB, hx, hy, hy2, rfl⟩ v I oI C oC D' m₂ h tk E' hP hC hx' F N off n1 n2 n3
    clear F9 N9
    simp only [LCg.Off3, and_true] at off
    k_steps
    exact ⟨_, _, _, _, _, ia_snoc hA, by simp [hL], (fun k hk => by rcases List.mem_append.mp hk with hk | hk; exact hB k hk; rw [List.mem_singleton.mp hk]; omega), by assumption, by assumption, by assumption, rfl⟩
  · rintro ys nw ⟨ks, x, y, tx, ty, hA, hL, hB, hx, hy, hy2, rfl⟩
    clear F9 N9
    k_steps
    walk_at "ONE"
    intro r v x' tx' y' ty' h' tk' hv x0 y0 y1 kp hD'
    (obtain ⟨F', N'⟩ := upd_news (by k_asm) (by k_asm) (by k_dflt k_updF) kp hD')
    (try dsimp only at N')
    k_sweep
    have hcase : v = Value.none ∨ ∃ mo t, v = Value.int mo t ∧ 0 ≤ mo ∧ mo ≤ 65536 := by
      match r, hv with
      | 0, hv => exact .inl (Option.some.inj hv).symm
      | 1, hv => exact .inl (Option.some.inj hv).symm
      | 2, hv => exact .inl (Option.some.inj hv).symm
      | 3, hv => exact .inr ⟨_, _, (Option.some.inj hv).symm, by decide, by decide⟩
      | 4, hv => exact .inr ⟨_, _, (Option.some.inj hv).symm, by decide, by decide⟩
      | 5, hv => exact .inr ⟨_, _, (Option.some.inj hv).symm, by decide, by decide⟩
      | 6, hv => exact .inr ⟨_, _, (Option.some.inj hv).symm, by decide, by decide⟩
      | 7, hv => exact .inr ⟨_, _, (Option.some.inj hv).symm, by decide, by decide⟩
      | 8, hv => exact .inr ⟨_, _, (Option.some.inj hv).symm, by decide, by decide⟩
      | r + 9, hv => exact absurd hv (by simp)
    clear hv
    rcases hcase with rfl | ⟨od, tod, rfl, hod, hod2⟩
    · k_steps
      have N9 := ‹News _ _ _ _›
      have hG := @News.get _ _ _ D _ _ N9 (by k_mem)
      exact ret _ _ _ _ _ _ _ _ _ hA (by omega) (fun k hk => by have := hB k hk; omega) (newOut hh N9 (by k_mem) (by k_mem) (by show Value.type "tuple" ≠ Value.type "list"; decide)) (News.isTup N9 (by k_mem)) (by assumption) (by assumption) (by assumption) (fun b o hb e => Fr.keep (by assumption) b o (hh b o hb e)) hG
    · k_steps
      have N9 := ‹News _ _ _ _›
      have hG := @News.get _ _ _ D _ _ N9 (by k_mem)
      exact ret _ _ _ _ _ _ _ _ _ (ia_set _ hA) (by simp; omega) (fun k hk => (List.mem_or_eq_of_mem_set hk).elim (fun q => by have := hB k q; omega) fun q => by rw [q]; exact ⟨hod, hod2⟩) (newOut hh N9 (by k_mem) (by k_mem) (by show Value.type "tuple" ≠ Value.type "list"; decide)) (News.isTup N9 (by k_mem)) (by assumption) (by assumption) (by assumption) (fun b o hb e => Fr.keep (by assumption) b o (hh b o hb e)) hG
end

end
theorem off_divisors : True := by
  k_with "off_divisors" => skip
  trivial


theorem fresh_loops {prog : Program} {w : World} {A : Around} {E : Value → Shared → Prop} {s : Shared} {env : Env} {Q : Flow → Shared → Prop} (h : Q .next s) : wpAny (model prog w) A (execs [] env) Q E s := by
  w_top off
  first | (walk1; done) | (walk1; exact h) | exact wpAny_execs_nil h
section
/-! for loops over a ledger, with an invariant; the plain logic and the one over clean contexts -/
def LoopEnd (h₀ : Heap) (L : Addr) (s₁ : Shared) (I : Addr) (oI : Obj) (S : List (Addr × Obj) → Prop) (rest : (Str → Option Value) → List (Addr × Obj) → Prop) (s₂ : Shared) : Prop :=
  ∃ h' tk m' news', s₂ = { s₁ with heap := h', toks := tk } ∧ Fr h₀ L h' m' ∧ News h₀ L h' ((I, oI) :: news') ∧ LCg.Off1 I news' ∧ S news' ∧ rest m' news'
def BodyEnd (h₀ : Heap) (L : Addr) (s₁ : Shared) (I : Addr) (oI : Obj) (S : List (Addr × Obj) → Prop) (rest : (Str → Option Value) → List (Addr × Obj) → Prop) (Q : Flow → Shared → Prop) (f : Flow) (s₂ : Shared) : Prop :=
  match f with
  | .next | .cont => LoopEnd h₀ L s₁ I oI S rest s₂
  | .brk => Q .next s₂
  | .ret v => Q (.ret v) s₂
theorem off1_of {I : Addr} : ∀ {l : List (Addr × Obj)}, (∀ p ∈ l, p.1 ≠ I) → LCg.Off1 I l
  | [], _ => trivial
  | p :: _, h => ⟨h p (.head _), off1_of fun q hq => h q (.tail _ hq)⟩
section
variable {prog : Program} {w : World} {A : Around} {E : Value → Shared → Prop} {s : Shared} {env : Env} {Q : Flow → Shared → Prop} {h₀ : Heap} {L : Addr} {m : Str → Option Value} {news : List (Addr × Obj)}
theorem forLedgerA {target : PySem.Expr} {body : List Stmt} {I : Addr} {fp : List Addr} {n : Nat} {P : Nat → Value → Prop} {St : Nat → Heap → Prop} {S : List (Addr × Obj) → Prop} {Inv : Nat → (Str → Option Value) → List (Addr × Obj) → Prop}
    (W : Walks prog w A I fp [I] n P St) (hIo : ∀ i h, St i h → ∃ o, h.get? I = some o)
    (hSt : ∀ i h h' o nw, St i h → h.get? I = some o → h'.get? I = some o → (∀ b o, h₀.get? b = some o → h'.get? b = some o) → News h₀ L h' nw → S nw → St i h')
    (hgo : ∀ i v (s' : Shared) (Q' : Unit → Shared → Prop) (E' : Value → Shared → Prop), St i s'.heap → Q' () s' → wpAny (model prog w) A (letOwnedTupleGo target (.ref I) v) Q' E' s')
    (hE : PassesOwn (model prog w) A env E) (hst : St 0 s.heap) (F : Fr h₀ L s.heap m) (N : News h₀ L s.heap news) (hIL : L ≠ I) (hI₀ : h₀.get? I = none) (off : LCg.Off1 I news) (hS : S news) (i0 : Inv 0 m news)
    (step : ∀ i v oI m₁ news₁ h tk, i < n → P i v → Inv i m₁ news₁ → Fr h₀ L h m₁ → News h₀ L h ((I, oI) :: news₁) → LCg.Off1 I news₁ → S news₁ →
      wpAny (model prog w) A (assign target env v) (fun _ s₂ => wpAny (model prog w) A (execs body env) (BodyEnd h₀ L { s with heap := h, toks := tk } I oI S (Inv (i + 1)) Q) E s₂) E { s with heap := h, toks := tk })
    (done : ∀ h tk m₁ news₁, Inv n m₁ news₁ → Fr h₀ L h m₁ → News h₀ L h news₁ → Q .next { s with heap := h, toks := tk }) :
    codeAny (model prog w) A (.forLoop target (.ref I) body [] env) (fun r s' => match r with | .ok f => Q f s' | .error e => cameBackBy (model prog w) A env E e s') s := by
  have pass : ∀ {β : Type} {t : Sem β} {R' : β → Shared → Prop} {σ : Shared}, wpAny (model prog w) A t R' E σ → wpAny (model prog w) A t R' (notedBy (model prog w) A env (cameBackBy (model prog w) A env E)) σ := fun h => wpAny_passesOwn hE h
  refine codeAny_forLoop_any (fun k s' => ∃ h' tk i m₁ news₁, s' = { s with heap := h', toks := tk } ∧ i ≤ n ∧ k = n + 1 - i ∧ St i h' ∧ Fr h₀ L h' m₁ ∧ News h₀ L h' news₁ ∧ LCg.Off1 I news₁ ∧ S news₁ ∧ Inv i m₁ news₁) ?_ (n + 1)
    ⟨s.heap, s.toks, 0, m, news, rfl, Nat.zero_le _, rfl, hst, F, N, off, hS, i0⟩
  rintro k s' ⟨h', tk, i, m₁, news₁, rfl, hi, rfl, hst', F', N', off', hS', hI⟩
  have offN : ∀ {l : List (Addr × Obj)}, LCg.Off1 I l → ∀ p ∈ l, p.1 ≠ I := fun {l} => by
    induction l with
    | nil => exact fun _ p hp => nomatch hp
    | cons q r ih => exact fun o p hp => by rcases List.mem_cons.mp hp with rfl | hp; exact o.1; exact ih o.2 p hp
  by_cases hlt : i < n
  · refine W.item i _ _ _ hlt hst' fun v h₂ tk₂ hPv hst₂ hk₂ => ?_
    obtain ⟨oI, heI⟩ := hIo _ _ hst₂
    have F₂ := LCg.fr_but F' hk₂ hIL hI₀
    have N₂ := LCg.news_but N' hk₂ (offN off')
    refine hgo (i + 1) v _ _ _ hst₂ ?_
    refine wpAny_mono (pass (step i v oI m₁ news₁ h₂ tk₂ hlt hPv hI F₂ (fun p hp => by
      rcases List.mem_cons.mp hp with rfl | hp
      · exact ⟨heI, Ne.symm hIL, hI₀⟩
      · exact N₂ p hp) off' hS')) (fun _ s₃ h₃ => wpAny_mono h₃ (fun f s₄ h₄ => ?_) fun e σ he => hE e σ he) fun _ _ x => x
    have next : LoopEnd h₀ L { s with heap := h₂, toks := tk₂ } I oI S (Inv (i + 1)) s₄ → ∃ k', k' < n + 1 - i ∧ ∃ h' tk i m₁ news₁, s₄ = { s with heap := h', toks := tk } ∧ i ≤ n ∧ k' = n + 1 - i ∧ St i h' ∧ Fr h₀ L h' m₁ ∧ News h₀ L h' news₁ ∧ LCg.Off1 I news₁ ∧ S news₁ ∧ Inv i m₁ news₁ := by
      rintro ⟨g₄, tk₄, m₄, news₄, rfl, F₄, N₄, off₄, hS₄, hI₄⟩
      have N₄' : News h₀ L g₄ news₄ := fun p hp => N₄ p (.tail _ hp)
      exact ⟨n + 1 - (i + 1), by omega, g₄, tk₄, i + 1, m₄, news₄, rfl, hlt, rfl, hSt _ _ _ _ _ hst₂ heI (N₄ (I, oI) (.head _)).1 F₄.keep N₄' hS₄, F₄, N₄', off₄, hS₄, hI₄⟩
    cases f with
    | next => exact next h₄
    | cont => exact next h₄
    | brk => exact h₄
    | ret v => exact h₄
  · obtain rfl : i = n := Nat.le_antisymm hi (Nat.not_lt.mp hlt)
    refine W.done _ _ _ hst' fun h₂ tk₂ hk₂ => ?_
    exact wpAny_execs_nil (done h₂ tk₂ m₁ news₁ hI (LCg.fr_but F' hk₂ hIL hI₀) (LCg.news_but N' hk₂ (offN off')))
theorem listLoopA {target : PySem.Expr} {body : List Stmt} {ax : Addr} {its : Array Value} {Inv : Nat → (Str → Option Value) → List (Addr × Obj) → Prop} {E₀ : Value → Shared → Prop} (hh : A.handled = none)
    (hgo : ∀ I i v (s' : Shared) (Q' : Unit → Shared → Prop) (E' : Value → Shared → Prop), s'.heap.IsListIter I ax i → Q' () s' → wpAny (model prog w) A (letOwnedTupleGo target (.ref I) v) Q' E' s')
    (hE : PassesOwn (model prog w) A env E) (F : Fr h₀ L s.heap m) (N : News h₀ L s.heap news) (hS : LCg.SrcAt h₀ ax its news) (i0 : Inv 0 m news)
    (step : ∀ I i v oI m₁ news₁ h tk, i < its.size → its[i]? = some v → Inv i m₁ news₁ → Fr h₀ L h m₁ → News h₀ L h ((I, oI) :: news₁) → LCg.Off1 I news₁ → LCg.SrcAt h₀ ax its news₁ →
      wpAny (model prog w) A (assign target env v) (fun _ s₂ => wpAny (model prog w) A (execs body env) (BodyEnd h₀ L { s with heap := h, toks := tk } I oI (LCg.SrcAt h₀ ax its) (Inv (i + 1)) Q) E s₂) E { s with heap := h, toks := tk })
    (done : ∀ h tk m₁ news₁, Inv its.size m₁ news₁ → Fr h₀ L h m₁ → News h₀ L h news₁ → Q .next { s with heap := h, toks := tk }) :
    wpAny (model prog w) A (pyIter (.ref ax)) (fun it s₂ => codeAny (model prog w) A (.forLoop target it body [] env) (fun r s' => match r with | .ok f => Q f s' | .error e => cameBackBy (model prog w) A env E e s') s₂) E₀ s := by
  have hl := hS.list F.keep N
  have hlt : ax < s.heap.objs.size := by obtain ⟨_, e, _⟩ := hl; exact Heap.lt_size e
  refine wpAny_pyIter_list hl ?_
  have up : ∀ b o, s.heap.get? b = some o → (s.heap.push { cls := .type "list_iterator", data := .fields #[.ref ax, .int 0 0] }).get? b = some o := fun b o e => Heap.get?_push_of_some _ e
  refine forLedgerA (s := { s with heap := s.heap.push { cls := .type "list_iterator", data := .fields #[.ref ax, .int 0 0] } }) (S := LCg.SrcAt h₀ ax its) (Inv := Inv) (Walks.list hh s.heap.objs.size ax (Nat.ne_of_lt hlt) its) (fun i h st => by obtain ⟨o, e, _⟩ := st.1; exact ⟨o, e⟩) LCg.list_st
    (fun i v s' Q' E' st hq => hgo _ _ _ _ _ _ st.1 hq) hE ⟨⟨_, Heap.get?_push_size _ rfl, rfl, rfl⟩, hl.push _⟩ (F.keeps up) (N.grown up) (Nat.ne_of_lt F.ns.lt) (next_is_new F) (off1_of fun p hp => Nat.ne_of_lt (Heap.lt_size (N p hp).1)) hS i0
    (fun i v oI m₁ news₁ h tk hi hP hI F' N' o hs => step _ i v oI m₁ news₁ h tk hi hP hI F' N' o hs) done
theorem tupLoopA {target : PySem.Expr} {body : List Stmt} {ax : Addr} {its : Array Value} {Inv : Nat → (Str → Option Value) → List (Addr × Obj) → Prop} {E₀ : Value → Shared → Prop} (hh : A.handled = none)
    (hgo : ∀ I i v (s' : Shared) (Q' : Unit → Shared → Prop) (E' : Value → Shared → Prop), s'.heap.IsTupleIter I ax i → Q' () s' → wpAny (model prog w) A (letOwnedTupleGo target (.ref I) v) Q' E' s')
    (hE : PassesOwn (model prog w) A env E) (F : Fr h₀ L s.heap m) (N : News h₀ L s.heap news) (hl₀ : IsTup h₀ ax its) (i0 : Inv 0 m news)
    (step : ∀ I i v oI m₁ news₁ h tk, i < its.size → its[i]? = some v → Inv i m₁ news₁ → Fr h₀ L h m₁ → News h₀ L h ((I, oI) :: news₁) → LCg.Off1 I news₁ → True →
      wpAny (model prog w) A (assign target env v) (fun _ s₂ => wpAny (model prog w) A (execs body env) (BodyEnd h₀ L { s with heap := h, toks := tk } I oI (fun _ => True) (Inv (i + 1)) Q) E s₂) E { s with heap := h, toks := tk })
    (done : ∀ h tk m₁ news₁, Inv its.size m₁ news₁ → Fr h₀ L h m₁ → News h₀ L h news₁ → Q .next { s with heap := h, toks := tk }) :
    wpAny (model prog w) A (pyIter (.ref ax)) (fun it s₂ => codeAny (model prog w) A (.forLoop target it body [] env) (fun r s' => match r with | .ok f => Q f s' | .error e => cameBackBy (model prog w) A env E e s') s₂) E₀ s := by
  have hl : s.heap.IsTuple ax its := F.tup hl₀
  have hlt : ax < s.heap.objs.size := by obtain ⟨_, e, _⟩ := hl; exact Heap.lt_size e
  refine wpAny_pyIter_tuple hl ?_
  have up : ∀ b o, s.heap.get? b = some o → (s.heap.push { cls := .type "tuple_iterator", data := .fields #[.ref ax, .int 0 0] }).get? b = some o := fun b o e => Heap.get?_push_of_some _ e
  refine forLedgerA (s := { s with heap := s.heap.push { cls := .type "tuple_iterator", data := .fields #[.ref ax, .int 0 0] } }) (S := fun _ => True) (Inv := Inv) (Walks.tuple hh s.heap.objs.size ax (Nat.ne_of_lt hlt) its) (fun i h st => by obtain ⟨o, e, _⟩ := st.1; exact ⟨o, e⟩)
    (fun i h h' o nw st e e' k _ _ => ⟨by obtain ⟨o', q, r⟩ := st.1; rw [e] at q; cases q; exact ⟨o, e', r⟩, IsTup.keeps hl₀ k⟩)
    (fun i v s' Q' E' st hq => hgo _ _ _ _ _ _ st.1 hq) hE ⟨⟨_, Heap.get?_push_size _ rfl, rfl, rfl⟩, IsTup.keeps hl up⟩ (F.keeps up) (N.grown up) (Nat.ne_of_lt F.ns.lt) (next_is_new F) (off1_of fun p hp => Nat.ne_of_lt (Heap.lt_size (N p hp).1)) trivial i0
    (fun i v oI m₁ news₁ h tk hi hP hI F' N' o hs => step _ i v oI m₁ news₁ h tk hi hP hI F' N' o hs) done
theorem rangeLoopA {target : PySem.Expr} {body : List Stmt} {r : Addr} {a b : Int} {t u v : Tok} {n : Nat} {Inv : Nat → (Str → Option Value) → List (Addr × Obj) → Prop} {E₀ : Value → Shared → Prop} (hh : A.handled = none)
    (hE : PassesOwn (model prog w) A env E) (F : Fr h₀ L s.heap m) (N : News h₀ L s.heap news) (hr : IsRange s.heap r a b 1 t u v) (hsm : Builtin.Range.small a b 1 = true) (hn : Builtin.Range.rangeSize a b 1 = ((n : Nat) : Int)) (i0 : Inv 0 m news)
    (step : ∀ I i v oI m₁ news₁ h tk, i < n → (∃ t, v = .int (a + (i : Int)) t) → Inv i m₁ news₁ → Fr h₀ L h m₁ → News h₀ L h ((I, oI) :: news₁) → LCg.Off1 I news₁ → True →
      wpAny (model prog w) A (assign target env v) (fun _ s₂ => wpAny (model prog w) A (execs body env) (BodyEnd h₀ L { s with heap := h, toks := tk } I oI (fun _ => True) (Inv (i + 1)) Q) E s₂) E { s with heap := h, toks := tk })
    (done : ∀ h tk m₁ news₁, Inv n m₁ news₁ → Fr h₀ L h m₁ → News h₀ L h news₁ → Q .next { s with heap := h, toks := tk }) (hg : ∀ it v, letOwnedTupleGo target it v = pure () := by intro _ _; rfl) :
    wpAny (model prog w) A (pyIter (.ref r)) (fun it s₂ => codeAny (model prog w) A (.forLoop target it body [] env) (fun r s' => match r with | .ok f => Q f s' | .error e => cameBackBy (model prog w) A env E e s') s₂) E₀ s := by
  refine wpAny_pyIter_range hr hsm ?_
  refine forLedgerA (S := fun _ => True) (Inv := Inv) (LCg.range_walks hh a n) (fun i h st => ⟨_, st⟩) LCg.range_st (fun i v s' Q' E' st hq => wpAny_of_eq (hg _ _) hq) hE (by show IsRangeIter _ _ _ _ _; rw [hn]; simpa using Heap.get?_push_size _ rfl)
    (F.keeps fun _ _ e => Heap.get?_push_of_some _ e) (N.grown fun _ _ e => Heap.get?_push_of_some _ e) (Nat.ne_of_lt F.ns.lt) (next_is_new F) (off1_of fun p hp => Nat.ne_of_lt (Heap.lt_size (N p hp).1)) trivial i0
    (fun i v oI m₁ news₁ h tk hi hP hI F' N' o hs => step _ i v oI m₁ news₁ h tk hi hP hI F' N' o hs) done
theorem forLedgerC {target : PySem.Expr} {body : List Stmt} {I : Addr} {fp : List Addr} {n : Nat} {P : Nat → Value → Prop} {St : Nat → Heap → Prop} {S : List (Addr × Obj) → Prop} {Inv : Nat → (Str → Option Value) → List (Addr × Obj) → Prop}
    (W : Walks prog w A I fp [I] n P St) (hIo : ∀ i h, St i h → ∃ o, h.get? I = some o)
    (hSt : ∀ i h h' o nw, St i h → h.get? I = some o → h'.get? I = some o → (∀ b o, h₀.get? b = some o → h'.get? b = some o) → News h₀ L h' nw → S nw → St i h')
    (hgo : ∀ i v (s' : Shared) (Q' : Unit → Shared → Prop) (E' : Value → Shared → Prop), St i s'.heap → Q' () s' → wpAny (model prog w) A (letOwnedTupleGo target (.ref I) v) Q' E' s')
    (hE : PassesOwn (model prog w) A env E) (hst : St 0 s.heap) (F : Fr h₀ L s.heap m) (N : News h₀ L s.heap news) (hIL : L ≠ I) (hI₀ : h₀.get? I = none) (off : LCg.Off1 I news) (hS : S news) (i0 : Inv 0 m news)
    (step : ∀ i v oI m₁ news₁ h tk, i < n → P i v → Inv i m₁ news₁ → Fr h₀ L h m₁ → News h₀ L h ((I, oI) :: news₁) → LCg.Off1 I news₁ → S news₁ →
      wpAny (model prog w) A (assign target env v) (fun _ s₂ => wpC (model prog w) A (execs body env) (BodyEnd h₀ L { s with heap := h, toks := tk } I oI S (Inv (i + 1)) Q) E s₂) E { s with heap := h, toks := tk })
    (done : ∀ h tk m₁ news₁, Inv n m₁ news₁ → Fr h₀ L h m₁ → News h₀ L h news₁ → Q .next { s with heap := h, toks := tk }) :
    codeC (model prog w) A (.forLoop target (.ref I) body [] env) (fun r s' => match r with | .ok f => Q f s' | .error e => cameBackBy (model prog w) A env E e s') s := by
  have pass : ∀ {β : Type} {t : Sem β} {R' : β → Shared → Prop} {σ : Shared}, wpAny (model prog w) A t R' E σ → wpAny (model prog w) A t R' (notedBy (model prog w) A env (cameBackBy (model prog w) A env E)) σ := fun h => wpAny_passesOwn hE h
  refine codeC_forLoop (fun k s' => ∃ h' tk i m₁ news₁, s' = { s with heap := h', toks := tk } ∧ i ≤ n ∧ k = n + 1 - i ∧ St i h' ∧ Fr h₀ L h' m₁ ∧ News h₀ L h' news₁ ∧ LCg.Off1 I news₁ ∧ S news₁ ∧ Inv i m₁ news₁) ?_ (n + 1)
    ⟨s.heap, s.toks, 0, m, news, rfl, Nat.zero_le _, rfl, hst, F, N, off, hS, i0⟩
  rintro k s' ⟨h', tk, i, m₁, news₁, rfl, hi, rfl, hst', F', N', off', hS', hI⟩
  have offN : ∀ {l : List (Addr × Obj)}, LCg.Off1 I l → ∀ p ∈ l, p.1 ≠ I := fun {l} => by
    induction l with
    | nil => exact fun _ p hp => nomatch hp
    | cons q r ih => exact fun o p hp => by rcases List.mem_cons.mp hp with rfl | hp; exact o.1; exact ih o.2 p hp
  by_cases hlt : i < n
  · refine W.item i _ _ _ hlt hst' fun v h₂ tk₂ hPv hst₂ hk₂ => ?_
    obtain ⟨oI, heI⟩ := hIo _ _ hst₂
    have F₂ := LCg.fr_but F' hk₂ hIL hI₀
    have N₂ := LCg.news_but N' hk₂ (offN off')
    refine hgo (i + 1) v _ _ _ hst₂ ?_
    refine wpAny_mono (pass (step i v oI m₁ news₁ h₂ tk₂ hlt hPv hI F₂ (fun p hp => by
      rcases List.mem_cons.mp hp with rfl | hp
      · exact ⟨heI, Ne.symm hIL, hI₀⟩
      · exact N₂ p hp) off' hS')) (fun _ s₃ h₃ => wpC_mono h₃ (fun f s₄ h₄ => ?_) fun e σ he => hE e σ he) fun _ _ x => x
    have next : LoopEnd h₀ L { s with heap := h₂, toks := tk₂ } I oI S (Inv (i + 1)) s₄ → ∃ k', k' < n + 1 - i ∧ ∃ h' tk i m₁ news₁, s₄ = { s with heap := h', toks := tk } ∧ i ≤ n ∧ k' = n + 1 - i ∧ St i h' ∧ Fr h₀ L h' m₁ ∧ News h₀ L h' news₁ ∧ LCg.Off1 I news₁ ∧ S news₁ ∧ Inv i m₁ news₁ := by
      rintro ⟨g₄, tk₄, m₄, news₄, rfl, F₄, N₄, off₄, hS₄, hI₄⟩
      have N₄' : News h₀ L g₄ news₄ := fun p hp => N₄ p (.tail _ hp)
      exact ⟨n + 1 - (i + 1), by omega, g₄, tk₄, i + 1, m₄, news₄, rfl, hlt, rfl, hSt _ _ _ _ _ hst₂ heI (N₄ (I, oI) (.head _)).1 F₄.keep N₄' hS₄, F₄, N₄', off₄, hS₄, hI₄⟩
    cases f with
    | next => exact next h₄
    | cont => exact next h₄
    | brk => exact h₄
    | ret v => exact h₄
  · obtain rfl : i = n := Nat.le_antisymm hi (Nat.not_lt.mp hlt)
    refine W.done _ _ _ hst' fun h₂ tk₂ hk₂ => ?_
    exact (done h₂ tk₂ m₁ news₁ hI (LCg.fr_but F' hk₂ hIL hI₀) (LCg.news_but N' hk₂ (offN off')))
theorem listLoopC {target : PySem.Expr} {body : List Stmt} {ax : Addr} {its : Array Value} {Inv : Nat → (Str → Option Value) → List (Addr × Obj) → Prop} {E₀ : Value → Shared → Prop} (hh : A.handled = none)
    (hgo : ∀ I i v (s' : Shared) (Q' : Unit → Shared → Prop) (E' : Value → Shared → Prop), s'.heap.IsListIter I ax i → Q' () s' → wpAny (model prog w) A (letOwnedTupleGo target (.ref I) v) Q' E' s')
    (hE : PassesOwn (model prog w) A env E) (F : Fr h₀ L s.heap m) (N : News h₀ L s.heap news) (hS : LCg.SrcAt h₀ ax its news) (i0 : Inv 0 m news)
    (step : ∀ I i v oI m₁ news₁ h tk, i < its.size → its[i]? = some v → Inv i m₁ news₁ → Fr h₀ L h m₁ → News h₀ L h ((I, oI) :: news₁) → LCg.Off1 I news₁ → LCg.SrcAt h₀ ax its news₁ →
      wpAny (model prog w) A (assign target env v) (fun _ s₂ => wpC (model prog w) A (execs body env) (BodyEnd h₀ L { s with heap := h, toks := tk } I oI (LCg.SrcAt h₀ ax its) (Inv (i + 1)) Q) E s₂) E { s with heap := h, toks := tk })
    (done : ∀ h tk m₁ news₁, Inv its.size m₁ news₁ → Fr h₀ L h m₁ → News h₀ L h news₁ → Q .next { s with heap := h, toks := tk }) :
    wpAny (model prog w) A (pyIter (.ref ax)) (fun it s₂ => codeC (model prog w) A (.forLoop target it body [] env) (fun r s' => match r with | .ok f => Q f s' | .error e => cameBackBy (model prog w) A env E e s') s₂) E₀ s := by
  have hl := hS.list F.keep N
  have hlt : ax < s.heap.objs.size := by obtain ⟨_, e, _⟩ := hl; exact Heap.lt_size e
  refine wpAny_pyIter_list hl ?_
  have up : ∀ b o, s.heap.get? b = some o → (s.heap.push { cls := .type "list_iterator", data := .fields #[.ref ax, .int 0 0] }).get? b = some o := fun b o e => Heap.get?_push_of_some _ e
  refine forLedgerC (s := { s with heap := s.heap.push { cls := .type "list_iterator", data := .fields #[.ref ax, .int 0 0] } }) (S := LCg.SrcAt h₀ ax its) (Inv := Inv) (Walks.list hh s.heap.objs.size ax (Nat.ne_of_lt hlt) its) (fun i h st => by obtain ⟨o, e, _⟩ := st.1; exact ⟨o, e⟩) LCg.list_st
    (fun i v s' Q' E' st hq => hgo _ _ _ _ _ _ st.1 hq) hE ⟨⟨_, Heap.get?_push_size _ rfl, rfl, rfl⟩, hl.push _⟩ (F.keeps up) (N.grown up) (Nat.ne_of_lt F.ns.lt) (next_is_new F) (off1_of fun p hp => Nat.ne_of_lt (Heap.lt_size (N p hp).1)) hS i0
    (fun i v oI m₁ news₁ h tk hi hP hI F' N' o hs => step _ i v oI m₁ news₁ h tk hi hP hI F' N' o hs) done
theorem tupLoopC {target : PySem.Expr} {body : List Stmt} {ax : Addr} {its : Array Value} {Inv : Nat → (Str → Option Value) → List (Addr × Obj) → Prop} {E₀ : Value → Shared → Prop} (hh : A.handled = none)
    (hgo : ∀ I i v (s' : Shared) (Q' : Unit → Shared → Prop) (E' : Value → Shared → Prop), s'.heap.IsTupleIter I ax i → Q' () s' → wpAny (model prog w) A (letOwnedTupleGo target (.ref I) v) Q' E' s')
    (hE : PassesOwn (model prog w) A env E) (F : Fr h₀ L s.heap m) (N : News h₀ L s.heap news) (hl₀ : IsTup h₀ ax its) (i0 : Inv 0 m news)
    (step : ∀ I i v oI m₁ news₁ h tk, i < its.size → its[i]? = some v → Inv i m₁ news₁ → Fr h₀ L h m₁ → News h₀ L h ((I, oI) :: news₁) → LCg.Off1 I news₁ → True →
      wpAny (model prog w) A (assign target env v) (fun _ s₂ => wpC (model prog w) A (execs body env) (BodyEnd h₀ L { s with heap := h, toks := tk } I oI (fun _ => True) (Inv (i + 1)) Q) E s₂) E { s with heap := h, toks := tk })
    (done : ∀ h tk m₁ news₁, Inv its.size m₁ news₁ → Fr h₀ L h m₁ → News h₀ L h news₁ → Q .next { s with heap := h, toks := tk }) :
    wpAny (model prog w) A (pyIter (.ref ax)) (fun it s₂ => codeC (model prog w) A (.forLoop target it body [] env) (fun r s' => match r with | .ok f => Q f s' | .error e => cameBackBy (model prog w) A env E e s') s₂) E₀ s := by
  have hl : s.heap.IsTuple ax its := F.tup hl₀
  have hlt : ax < s.heap.objs.size := by obtain ⟨_, e, _⟩ := hl; exact Heap.lt_size e
  refine wpAny_pyIter_tuple hl ?_
  have up : ∀ b o, s.heap.get? b = some o → (s.heap.push { cls := .type "tuple_iterator", data := .fields #[.ref ax, .int 0 0] }).get? b = some o := fun b o e => Heap.get?_push_of_some _ e
  refine forLedgerC (s := { s with heap := s.heap.push { cls := .type "tuple_iterator", data := .fields #[.ref ax, .int 0 0] } }) (S := fun _ => True) (Inv := Inv) (Walks.tuple hh s.heap.objs.size ax (Nat.ne_of_lt hlt) its) (fun i h st => by obtain ⟨o, e, _⟩ := st.1; exact ⟨o, e⟩)
    (fun i h h' o nw st e e' k _ _ => ⟨by obtain ⟨o', q, r⟩ := st.1; rw [e] at q; cases q; exact ⟨o, e', r⟩, IsTup.keeps hl₀ k⟩)
    (fun i v s' Q' E' st hq => hgo _ _ _ _ _ _ st.1 hq) hE ⟨⟨_, Heap.get?_push_size _ rfl, rfl, rfl⟩, IsTup.keeps hl up⟩ (F.keeps up) (N.grown up) (Nat.ne_of_lt F.ns.lt) (next_is_new F) (off1_of fun p hp => Nat.ne_of_lt (Heap.lt_size (N p hp).1)) trivial i0
    (fun i v oI m₁ news₁ h tk hi hP hI F' N' o hs => step _ i v oI m₁ news₁ h tk hi hP hI F' N' o hs) done
theorem rangeLoopC {target : PySem.Expr} {body : List Stmt} {r : Addr} {a b : Int} {t u v : Tok} {n : Nat} {Inv : Nat → (Str → Option Value) → List (Addr × Obj) → Prop} {E₀ : Value → Shared → Prop} (hh : A.handled = none)
    (hE : PassesOwn (model prog w) A env E) (F : Fr h₀ L s.heap m) (N : News h₀ L s.heap news) (hr : IsRange s.heap r a b 1 t u v) (hsm : Builtin.Range.small a b 1 = true) (hn : Builtin.Range.rangeSize a b 1 = ((n : Nat) : Int)) (i0 : Inv 0 m news)
    (step : ∀ I i v oI m₁ news₁ h tk, i < n → (∃ t, v = .int (a + (i : Int)) t) → Inv i m₁ news₁ → Fr h₀ L h m₁ → News h₀ L h ((I, oI) :: news₁) → LCg.Off1 I news₁ → True →
      wpAny (model prog w) A (assign target env v) (fun _ s₂ => wpC (model prog w) A (execs body env) (BodyEnd h₀ L { s with heap := h, toks := tk } I oI (fun _ => True) (Inv (i + 1)) Q) E s₂) E { s with heap := h, toks := tk })
    (done : ∀ h tk m₁ news₁, Inv n m₁ news₁ → Fr h₀ L h m₁ → News h₀ L h news₁ → Q .next { s with heap := h, toks := tk }) (hg : ∀ it v, letOwnedTupleGo target it v = pure () := by intro _ _; rfl) :
    wpAny (model prog w) A (pyIter (.ref r)) (fun it s₂ => codeC (model prog w) A (.forLoop target it body [] env) (fun r s' => match r with | .ok f => Q f s' | .error e => cameBackBy (model prog w) A env E e s') s₂) E₀ s := by
  refine wpAny_pyIter_range hr hsm ?_
  refine forLedgerC (S := fun _ => True) (Inv := Inv) (LCg.range_walks hh a n) (fun i h st => ⟨_, st⟩) LCg.range_st (fun i v s' Q' E' st hq => wpAny_of_eq (hg _ _) hq) hE (by show IsRangeIter _ _ _ _ _; rw [hn]; simpa using Heap.get?_push_size _ rfl)
    (F.keeps fun _ _ e => Heap.get?_push_of_some _ e) (N.grown fun _ _ e => Heap.get?_push_of_some _ e) (Nat.ne_of_lt F.ns.lt) (next_is_new F) (off1_of fun p hp => Nat.ne_of_lt (Heap.lt_size (N p hp).1)) trivial i0
    (fun i v oI m₁ news₁ h tk hi hP hI F' N' o hs => step _ i v oI m₁ news₁ h tk hi hP hI F' N' o hs) done
end

end
theorem off_loops : True := by
  k_with "off_loops" => skip
  trivial


theorem fresh_maxtup {prog : Program} {w : World} {A : Around} {E : Value → Shared → Prop} {s : Shared} {env : Env} {Q : Flow → Shared → Prop} (h : Q .next s) : wpAny (model prog w) A (execs [] env) Q E s := by
  w_top off
  first | (walk1; done) | (walk1; exact h) | exact wpAny_execs_nil h
section
/-! max and min of a tuple of ints -/
section
variable {prog : Program} {w : World} {A : Around} {E : Value → Shared → Prop} {s : Shared} {l : Addr}
theorem iter_tupInts {xs : Array (Int × Tok)} {Q : Value → Shared → Prop} (hl : s.heap.IsTuple l (intItems xs))
    (h : ∀ s₂ : Shared, s₂ = { s with heap := s.heap.push { cls := .type "tuple_iterator", data := .fields #[.ref l, .int 0 0] } } →
      (s₂.heap.IsTupleIter s.heap.objs.size l 0 ∧ s₂.heap.IsTuple l (intItems xs)) → (∀ b ∈ [s.heap.objs.size, l], b < s₂.heap.objs.size) → l ≠ s.heap.objs.size → Q (.ref s.heap.objs.size) s₂) :
    wpAny (model prog w) A (pyIter (.ref l)) Q E s := by
  have hlt : l < s.heap.objs.size := by obtain ⟨_, e, _⟩ := hl; exact Heap.lt_size e
  refine wpAny_pyIter_tuple hl (h _ rfl ⟨⟨_, Heap.get?_push_size _ rfl, rfl, rfl⟩, IsTup.keeps hl fun _ _ e => Heap.get?_push_of_some _ e⟩ (fun b hb => ?_) (Nat.ne_of_lt hlt))
  show b < (s.heap.push _).objs.size
  rw [Heap.size_push]
  rcases List.mem_cons.mp hb with rfl | hb
  · exact Nat.lt_succ_self _
  · rw [List.mem_singleton.mp hb]; exact Nat.lt_succ_of_lt hlt
theorem old_keptT {h' : Heap} (hk : ∀ b o, b ∉ [s.heap.objs.size] → (s.heap.push { cls := .type "tuple_iterator", data := .fields #[.ref l, .int 0 0] }).get? b = some o → h'.get? b = some o) :
    ∀ b o, s.heap.get? b = some o → h'.get? b = some o := fun b o e => by
  refine hk b o (fun hm => ?_) (Heap.get?_push_of_some _ e)
  rw [List.mem_singleton] at hm
  exact absurd (hm ▸ Heap.lt_size e) (Nat.lt_irrefl _)
theorem max_tup {vs : List Value} {ns : List Int} {Q : Value → Shared → Prop} (hh : A.handled = none) (hl : IsTup s.heap l vs.toArray) (hi : IntsAre vs ns) (hne : ns ≠ [])
    (h : ∀ h' M (t : Tok) tk, (∀ b o, s.heap.get? b = some o → h'.get? b = some o) → M ∈ ns → (∀ a, a ∈ ns → a ≤ M) → Q (.int M t) { s with heap := h', toks := tk }) :
    wpAny (model prog w) A (call (.builtin "max") [.ref l]) Q E s := by
  obtain ⟨xs, e⟩ := hi.allInts.items
  have hns : ns = xs.toList.map (·.1) := by rw [← hi.numsOf, ← nums_intItems, ← e]
  have hsz : 0 < xs.size := by
    have h3 := List.length_pos_iff.mpr hne; rw [hns, List.length_map, Array.length_toList] at h3; exact h3
  rw [e] at hl
  refine call_max_walk (iter_tupInts hl fun s₂ e st hfp hlI => ?_)
  subst e
  refine ⟨_, _, _, _, _, _, _, rfl, Walks.tuple (A := A.in1) hh _ l hlI (intItems xs), st, hfp, by simpa [intItems] using hsz, CmpOf.ints_gt (numAt xs) (fun _ _ => intItems_at), fun v h' tk hP hk => ?_⟩
  have hv : (intItems xs)[argBest (fun i j => decide (numAt xs i > numAt xs j)) (xs.size - 1)]? = some v := by simpa [intItems] using hP
  obtain ⟨t, rfl⟩ := intItems_at hv
  obtain ⟨h1, h2⟩ := argBest_gt (numAt xs) (xs.size - 1)
  refine h _ _ t tk (old_keptT hk) ?_ fun a ha => ?_
  · rw [hns, numAt_eq]; exact getD_mem (by rw [List.length_map, Array.length_toList]; omega)
  · rw [hns] at ha
    obtain ⟨j, hj, rfl⟩ := mem_getD ha
    rw [List.length_map, Array.length_toList] at hj
    rw [← numAt_eq]; exact h2 j (by omega)
theorem min_tup {vs : List Value} {ns : List Int} {Q : Value → Shared → Prop} (hh : A.handled = none) (hl : IsTup s.heap l vs.toArray) (hi : IntsAre vs ns) (hne : ns ≠ [])
    (h : ∀ h' M (t : Tok) tk, (∀ b o, s.heap.get? b = some o → h'.get? b = some o) → M ∈ ns → (∀ a, a ∈ ns → M ≤ a) → Q (.int M t) { s with heap := h', toks := tk }) :
    wpAny (model prog w) A (call (.builtin "min") [.ref l]) Q E s := by
  obtain ⟨xs, e⟩ := hi.allInts.items
  have hns : ns = xs.toList.map (·.1) := by rw [← hi.numsOf, ← nums_intItems, ← e]
  have hsz : 0 < xs.size := by
    have h3 := List.length_pos_iff.mpr hne; rw [hns, List.length_map, Array.length_toList] at h3; exact h3
  rw [e] at hl
  refine call_min_walk (iter_tupInts hl fun s₂ e st hfp hlI => ?_)
  subst e
  refine ⟨_, _, _, _, _, _, _, rfl, Walks.tuple (A := A.in1) hh _ l hlI (intItems xs), st, hfp, by simpa [intItems] using hsz, CmpOf.ints_lt (numAt xs) (fun _ _ => intItems_at), fun v h' tk hP hk => ?_⟩
  have hv : (intItems xs)[argBest (fun i j => decide (numAt xs i < numAt xs j)) (xs.size - 1)]? = some v := by simpa [intItems] using hP
  obtain ⟨t, rfl⟩ := intItems_at hv
  obtain ⟨h1, h2⟩ := argBest_lt (numAt xs) (xs.size - 1)
  refine h _ _ t tk (old_keptT hk) ?_ fun a ha => ?_
  · rw [hns, numAt_eq]; exact getD_mem (by rw [List.length_map, Array.length_toList]; omega)
  · rw [hns] at ha
    obtain ⟨j, hj, rfl⟩ := mem_getD ha
    rw [List.length_map, Array.length_toList] at hj
    rw [← numAt_eq]; exact h2 j (by omega)
variable {h₀ : Heap} {L : Addr} {m : Str → Option Value} {news : List (Addr × Obj)}
theorem max_tupN {vs : List Value} {ns : List Int} {Q : Value → Shared → Prop} (hh : A.handled = none) (F : Fr h₀ L s.heap m) (N : News h₀ L s.heap news) (hl : IsTup h₀ l vs.toArray) (hi : IntsAre vs ns) (hne : ns ≠ [])
    (h : ∀ h' M (t : Tok) tk, Fr h₀ L h' m → News h₀ L h' news → M ∈ ns → (∀ a, a ∈ ns → a ≤ M) → Q (.int M t) { s with heap := h', toks := tk }) : wpAny (model prog w) A (call (.builtin "max") [.ref l]) Q E s :=
  max_tup hh (F.tup hl) hi hne fun h' M t tk hk => h h' M t tk (F.grownK hk) (N.grown hk)
theorem min_tupN {vs : List Value} {ns : List Int} {Q : Value → Shared → Prop} (hh : A.handled = none) (F : Fr h₀ L s.heap m) (N : News h₀ L s.heap news) (hl : IsTup h₀ l vs.toArray) (hi : IntsAre vs ns) (hne : ns ≠ [])
    (h : ∀ h' M (t : Tok) tk, Fr h₀ L h' m → News h₀ L h' news → M ∈ ns → (∀ a, a ∈ ns → M ≤ a) → Q (.int M t) { s with heap := h', toks := tk }) : wpAny (model prog w) A (call (.builtin "min") [.ref l]) Q E s :=
  min_tup hh (F.tup hl) hi hne fun h' M t tk hk => h h' M t tk (F.grownK hk) (N.grown hk)
end

end
theorem off_maxtup : True := by
  k_with "off_maxtup" => skip
  trivial


theorem fresh_laid {prog : Program} {w : World} {A : Around} {E : Value → Shared → Prop} {s : Shared} {env : Env} {Q : Flow → Shared → Prop} (h : Q .next s) : wpAny (model prog w) A (execs [] env) Q E s := by
  w_top off
  first | (walk1; done) | (walk1; exact h) | exact wpAny_execs_nil h
section
/-! «_law_laid» -/
/-- a dict of int keys, each a tuple of ints; tab tells it -/
structure Held (prog : Program) (w : World) (h : Heap) (d : Addr) (kvs : List (Int × Value)) (tab : Int → Option (List Int)) : Prop where
  lo : (d == sysModules) = false
  dict : h.DictOf (intKind prog w) d kvs
  no : ∀ k, tab k = none → valueAt kvs k = none
  yes : ∀ k ns, tab k = some ns → ∃ T vs, valueAt kvs k = some (.ref T) ∧ IsTup h T vs.toArray ∧ IntsAre vs ns ∧ ns ≠ [] ∧ ns.length ≤ 16 ∧ ∀ n ∈ ns, 0 ≤ n ∧ n ≤ 65536
theorem Held.keeps {prog : Program} {w : World} {h h' : Heap} {d : Addr} {kvs : List (Int × Value)} {tab : Int → Option (List Int)} (H : Held prog w h d kvs tab) (k : ∀ b o, h.get? b = some o → h'.get? b = some o) : Held prog w h' d kvs tab where
  lo := H.lo
  dict := by obtain ⟨o, e, r⟩ := Heap.dictOf_iff.mp H.dict; exact Heap.dictOf_iff.mpr ⟨o, k _ _ e, r⟩
  no := H.no
  yes := fun i ns e => by obtain ⟨T, vs, a, b, r⟩ := H.yes i ns e; exact ⟨T, vs, a, b.keeps k, r⟩
section
variable {prog : Program} {w : World} {A : Around} {E : Value → Shared → Prop} {s : Shared} {h₀ : Heap} {L d : Addr} {m : Str → Option Value} {kvs : List (Int × Value)} {tab : Int → Option (List Int)} {k : Int} {u : Tok} {Q : Value → Shared → Prop}
theorem held_notin_no (H : Held prog w h₀ d kvs tab) (F : Fr h₀ L s.heap m) (ht : tab k = none) (h : Q (.bool true) { s with toks := s.toks + 1 }) : wpAny (model prog w) A (compareOp .NotIn (.int k u) (.ref d)) Q E s :=
  wpAny_notIn_of (intKind_is _ _ _ _) H.lo (H.keeps F.keep).dict.mapOf (by rw [H.no _ ht]; exact h)
theorem held_notin_yes (H : Held prog w h₀ d kvs tab) (F : Fr h₀ L s.heap m) {v : Value} (ht : valueAt kvs k = some v) (h : Q (.bool false) { s with toks := s.toks + 1 }) : wpAny (model prog w) A (compareOp .NotIn (.int k u) (.ref d)) Q E s :=
  wpAny_notIn_of (intKind_is _ _ _ _) H.lo (H.keeps F.keep).dict.mapOf (by rw [ht]; exact h)
theorem held_item {value slice : PySem.Expr} (H : Held prog w h₀ d kvs tab) (F : Fr h₀ L s.heap m) {v : Value} (ht : valueAt kvs k = some v) (h : Q v { s with toks := s.toks + 1 })
    (hs : subscripted slice false (.ref d) (.int k u) = operate [.ref d, .int k u] (getItem (.ref d) (.int k u)) := by with_unfolding_all rfl) (hg : ∀ r, letTemporaryGo value (.ref d) r = pure () := by intro _; with_unfolding_all rfl) :
    wpAny (model prog w) A (subscriptTail value slice (.ref d) (.int k u)) Q E s :=
  have hD := (H.keeps F.keep).dict
  subscriptTail_builtin hD.typeIs slot_dict_getitem.lookup (wpAny_getItem_of (intKind_is _ _ _ _) hD.mapOf ht h) hs hg
end
/-- the plain law's words -/
def wideOf (ns : List Int) : Bool := ns.any fun n => decide (255 < n)
def badOf (ns : List Int) : Bool := ns.any fun n => decide (n < 1) || decide (65535 < n)
def wideInt (ns : List Int) : Int := if wideOf ns then 1 else 0
def enc1 (k : Int) (ns : List Int) : List Int := (16 * wideInt ns + k) :: ns.flatMap fun n => if wideOf ns then [n.fdiv 256, n.fmod 256] else [n]
def encs (tab : Int → Option (List Int)) (slots : List Int) : List Int := slots.flatMap fun k => enc1 k ((tab k).getD [])
abbrev rowTup (k : Int) (t : Tok) (w : Int) (wt : Tok) (v : Value) : Obj := { cls := .type "tuple", data := .seq #[.int k t, .int w wt, v] }
abbrev tupObj (vs : Array Value) : Obj := { cls := .type "tuple", data := .seq vs }
/-- new since h, all of them in h' -/
def Made (h h' : Heap) (nw : List (Addr × Obj)) : Prop := ∀ p ∈ nw, h'.get? p.1 = some p.2 ∧ h.get? p.1 = none
theorem Made.of_news {h h' : Heap} {L : Addr} {nw : List (Addr × Obj)} (N : News h L h' nw) : Made h h' nw := fun p hp => ⟨(N p hp).1, (N p hp).2.2⟩
theorem Made.one {h h' : Heap} {L a : Addr} {o : Obj} {nw : List (Addr × Obj)} (N : News h L h' nw) (hm : (a, o) ∈ nw) : Made h h' [(a, o)] := fun p hp => by
  rw [List.mem_singleton.mp hp]; exact ⟨(N _ hm).1, (N _ hm).2.2⟩
theorem Made.two {h h' : Heap} {L a b : Addr} {o o' : Obj} {nw : List (Addr × Obj)} (N : News h L h' nw) (hm : (a, o) ∈ nw) (hm' : (b, o') ∈ nw) : Made h h' [(a, o), (b, o')] := fun p hp => by
  rcases List.mem_cons.mp hp with rfl | hp
  · exact ⟨(N _ hm).1, (N _ hm).2.2⟩
  · rw [List.mem_singleton.mp hp]; exact ⟨(N _ hm').1, (N _ hm').2.2⟩
theorem made_both {h₀ h h' : Heap} {L : Addr} {m : Str → Option Value} {nw nw' : List (Addr × Obj)} (F : Fr h₀ L h m) (N : News h₀ L h nw) (k : ∀ b o, h.get? b = some o → h'.get? b = some o) (M : Made h h' nw') : Fr h₀ L h' m ∧ News h₀ L h' (nw' ++ nw) ∧ ∀ p ∈ nw, ∀ q ∈ nw', (@Ne Nat p.1 q.1) := by
  have hL : ∃ o, h.get? L = some o := by obtain ⟨oL, _, _, hL, _⟩ := F.ns; exact ⟨oL, hL⟩
  refine ⟨F.keeps k, fun p hp => ?_, fun p hp q hq e => ?_⟩
  · rcases List.mem_append.mp hp with hp | hp
    · refine ⟨(M p hp).1, fun e => ?_, ?_⟩
      · obtain ⟨o, ho⟩ := hL; rw [← e, (M p hp).2] at ho; cases ho
      · cases q : h₀.get? p.1 with
        | none => rfl
        | some o => have := F.keep _ _ q; rw [(M p hp).2] at this; cases this
    · exact ⟨k _ _ (N p hp).1, (N p hp).2⟩
  · have a := (N p hp).1
    have b := (M q hq).2
    have e' : p.1 = q.1 := e
    rw [e', b] at a; cases a
structure RowsMem (kvs : List (Int × Value)) (tab : Int → Option (List Int)) (slots : List Int) (xs : List Value) (tups : List (Addr × Obj)) : Prop where
  len : xs.length = slots.length
  row : ∀ (i : Nat) k, slots[i]? = some k → ∃ Ti t wt v ns, xs[i]? = some (.ref Ti) ∧ tab k = some ns ∧ valueAt kvs k = some v ∧ (Ti, rowTup k t (wideInt ns) wt v) ∈ tups
structure RowsAre (h : Heap) (kvs : List (Int × Value)) (tab : Int → Option (List Int)) (slots : List Int) (xs : List Value) : Prop where
  len : xs.length = slots.length
  row : ∀ (i : Nat) k, slots[i]? = some k → ∃ Ti t wt v ns, xs[i]? = some (.ref Ti) ∧ tab k = some ns ∧ valueAt kvs k = some v ∧ IsTup h Ti #[.int k t, .int (wideInt ns) wt, v]
structure VarInv (x : Str) (m0 : Str → Option Value) (nw0 : List (Addr × Obj)) (C : Nat → Prop) (i : Nat) (m₁ : Str → Option Value) (nw : List (Addr × Obj)) : Prop where
  hm : ∃ ov, m₁ = fun y => if y = x then ov else m0 y
  hn : nw = nw0
  hc : C i
theorem updSelf (x : Str) (m : Str → Option Value) : m = fun y => if y = x then m x else m y := by
  funext y; by_cases h : y = x <;> simp [h]
theorem updTwice (x : Str) (v : Value) (ov : Option Value) (m : Str → Option Value) : (fun y => if y = x then some v else if y = x then ov else m y) = fun y => if y = x then some v else m y := by
  funext y; by_cases h : y = x <;> simp [h]
structure LaidInv (m0 : Str → Option Value) (R : Addr) (kvs : List (Int × Value)) (tab : Int → Option (List Int)) (slots : List Int) (i : Nat) (m₁ : Str → Option Value) (nw : List (Addr × Obj)) : Prop where
  ex : ∃ on t ow os xs c tups, m₁ = (fun y => if y = Str.ofString "number" then on else if y = Str.ofString "octets" then some (.bytes (byteArr (encs tab (slots.take i))) t) else if y = Str.ofString "wide" then ow else if y = Str.ofString "slot" then os else m0 y) ∧
    nw = (R, listOf (List.toArray xs) c) :: tups ∧ (∀ p ∈ tups, p.1 ≠ R) ∧ xs.length = i ∧
    ∀ (j : Nat) k, j < i → slots[j]? = some k → ∃ Ti t wt v ns, xs[j]? = some (.ref Ti) ∧ tab k = some ns ∧ valueAt kvs k = some v ∧ (Ti, rowTup k t (wideInt ns) wt v) ∈ tups
  len : (encs tab (slots.take i)).length ≤ 33 * i
  good : ∀ (j : Nat) k, j < i → slots[j]? = some k → ∃ ns, tab k = some ns ∧ badOf ns = false
theorem newsSwap {h₀ h : Heap} {L : Addr} {a b : Addr × Obj} {r : List (Addr × Obj)} (N : News h₀ L h (a :: b :: r)) : News h₀ L h (b :: a :: r) := fun p hp => by
  rcases List.mem_cons.mp hp with rfl | hp
  · exact N _ (.tail _ (.head _))
  · rcases List.mem_cons.mp hp with rfl | hp
    · exact N _ (.head _)
    · exact N _ (.tail _ (.tail _ hp))
theorem newsDrop {h₀ h : Heap} {L : Addr} {a : Addr × Obj} {r : List (Addr × Obj)} (N : News h₀ L h (a :: r)) : News h₀ L h r := fun p hp => N p (.tail _ hp)
theorem LaidInv.start {m0 : Str → Option Value} {R : Addr} {kvs : List (Int × Value)} {tab : Int → Option (List Int)} {slots : List Int} {t : Tok} {c : Nat} {tups : List (Addr × Obj)} (ho : m0 (Str.ofString "octets") = some (.bytes #[] t)) (hR : ∀ p ∈ tups, p.1 ≠ R) :
    LaidInv m0 R kvs tab slots 0 m0 ((R, listOf #[] c) :: tups) := by
  refine ⟨⟨m0 (Str.ofString "number"), t, m0 (Str.ofString "wide"), m0 (Str.ofString "slot"), [], c, tups, ?_, rfl, hR, rfl, by simp⟩, by simp [encs], by simp⟩
  funext y
  by_cases h1 : y = Str.ofString "number"
  · simp [h1]
  · by_cases h2 : y = Str.ofString "octets"
    · subst h2; simp only [h1, if_false, if_true]; rw [ho]; rfl
    · by_cases h3 : y = Str.ofString "wide"
      · subst h3; simp [h1, h2]
      · by_cases h4 : y = Str.ofString "slot"
        · subst h4; simp [h1, h2, h3]
        · simp [h1, h2, h3, h4]
theorem bad_lo {ns : List Int} {M : Int} (h : M < 1) (hM : M ∈ ns) : badOf ns = true := List.any_eq_true.mpr ⟨M, hM, by simp [h]⟩
theorem bad_hi {ns : List Int} {M : Int} (h : 65535 < M) (hM : M ∈ ns) : badOf ns = true := List.any_eq_true.mpr ⟨M, hM, by simp [h]⟩
theorem good_of {ns : List Int} {M M' : Int} (h : ¬ M < 1) (h' : ¬ 65535 < M') (hM : ∀ a ∈ ns, M ≤ a) (hM' : ∀ a ∈ ns, a ≤ M') : badOf ns = false := List.any_eq_false.mpr fun a ha => by
  have := hM a ha
  have := hM' a ha
  simp only [Bool.or_eq_true, decide_eq_true_eq]; omega
theorem wide_eq {ns : List Int} {M : Int} (hM : M ∈ ns) (hb : ∀ a ∈ ns, a ≤ M) : decide (M > 255) = wideOf ns := by
  cases h : wideOf ns with
  | true => obtain ⟨a, ha, hl⟩ := List.any_eq_true.mp h; have := hb a ha; simp only [decide_eq_true_eq] at hl ⊢; omega
  | false => have := List.any_eq_false.mp h M hM; simp only [decide_eq_true_eq, decide_eq_false_iff_not] at this ⊢; omega
theorem lead_lo {b : Bool} {n : Int} (h0 : 0 ≤ n) (h1 : n ≤ 3) : 0 ≤ 16 * (if b = true then (1 : Int) else 0) + n ∧ 16 * (if b = true then (1 : Int) else 0) + n < 256 := by split <;> omega
theorem word_w16 : True := by
  k_with "call type:bytes" => ((fail_if_success k_extra "off_laid"); k_here; (with_reducible show wpAny _ _ (call (Value.type _) [Value.ref _]) _ _ _); k_dflt (refine' bytes_K ?F ?N ?l ?i ?r ?z ?h ?_; (case F => k_asm); (case N => k_asm); (case l => exact News.isList (by assumption) (by k_mem)); (case i => exact IntsAre.cons _ _ .nil); (case r => (intro n hn; rw [List.mem_singleton.mp hn]; first | omega | exact lead_lo (by assumption) (by assumption))); (case z => (simp only [sizeLine_eq, List.length_cons, List.length_nil]; decide)); (case h => with_unfolding_all rfl); k_whole); intro h' t' k' F' N' hB'; (revert h' t' k' F' N' hB'; intros); (try k_sweep))
  trivial
theorem byteArr_append (xs ys : List Int) : byteArr xs ++ byteArr ys = byteArr (xs ++ ys) := by simp [byteArr]
theorem add_byteArr {prog : Program} {w : World} {A : Around} {E : Value → Shared → Prop} {s : Shared} {xs ys : List Int} {t u : Tok} {Q : Value → Shared → Prop} (hx : xs.length ≤ 1000) (hy : ys.length ≤ 1000) (h : ∀ t' k, Q (.bytes (byteArr (xs ++ ys)) t') { s with toks := k }) :
    wpAny (model prog w) A (binaryOp .Add (.bytes (byteArr xs) t) (.bytes (byteArr ys) u)) Q E s :=
  KBy.add_bytes (by rw [byteArr_size, byteArr_size]; omega) fun t' k => by rw [byteArr_append]; exact h t' k
def numOcts (b : Bool) (n : Int) : List Int := if b then [n.fdiv 256, n.fmod 256] else [n]
structure ByteInv (m0 : Str → Option Value) (nw0 : List (Addr × Obj)) (E0 : List Int) (b : Bool) (ns : List Int) (i : Nat) (m₁ : Str → Option Value) (nw : List (Addr × Obj)) : Prop where
  hm : ∃ on t, m₁ = fun y => if y = Str.ofString "number" then on else if y = Str.ofString "octets" then some (.bytes (byteArr (E0 ++ (ns.take i).flatMap (numOcts b))) t) else m0 y
  hn : nw = nw0
theorem ByteInv.start {m0 : Str → Option Value} {nw0 : List (Addr × Obj)} {E0 : List Int} {b : Bool} {ns : List Int} {t : Tok} (ho : m0 (Str.ofString "octets") = some (.bytes (byteArr E0) t)) : ByteInv m0 nw0 E0 b ns 0 m0 nw0 := by
  refine ⟨⟨m0 (Str.ofString "number"), t, ?_⟩, rfl⟩
  funext y
  by_cases h1 : y = Str.ofString "number"
  · simp [h1]
  · by_cases h2 : y = Str.ofString "octets"
    · subst h2; simp only [h1, if_false, if_true]; rw [ho]; simp
    · simp [h1, h2]
theorem upd21 {x z : Str} (hne : x ≠ z) (a b : Value) (c d : Option Value) (m : Str → Option Value) : (fun y => if y = z then some a else if y = x then some b else if y = x then c else if y = z then d else m y) = fun y => if y = x then some b else if y = z then some a else m y := by
  funext y
  by_cases h1 : y = x
  · subst h1; simp [hne]
  · by_cases h2 : y = z
    · subst h2; simp [h1]
    · simp [h1, h2]
theorem take_next {ns : List Int} {i : Nat} {n : Int} {b : Bool} (h : ns[i]? = some n) (E0 : List Int) : E0 ++ (ns.take i).flatMap (numOcts b) ++ numOcts b n = E0 ++ (ns.take (i + 1)).flatMap (numOcts b) := by
  rw [List.take_add_one, h]; simp
theorem upd4 {N O W S : Str} (a d e : Option Value) (b : Option Value) (c f g h k : Option Value) (m : Str → Option Value) :
    (fun y => if y = N then a else if y = O then b else if y = O then c else if y = W then d else if y = S then e else if y = N then f else if y = O then g else if y = W then h else if y = S then k else m y) =
      fun y => if y = N then a else if y = O then b else if y = W then d else if y = S then e else m y := by
  funext y
  by_cases h1 : y = N
  · simp only [if_pos h1]
  · by_cases h2 : y = O
    · simp only [if_neg h1, if_pos h2]
    · by_cases h3 : y = W
      · simp only [if_neg h1, if_neg h2, if_pos h3]
      · by_cases h4 : y = S
        · simp only [if_neg h1, if_neg h2, if_neg h3, if_pos h4]
        · simp only [if_neg h1, if_neg h2, if_neg h3, if_neg h4]
theorem encs_next {tab : Int → Option (List Int)} {slots ns : List Int} {i : Nat} {n : Int} {b : Bool} (h : slots[i]? = some n) (ht : tab n = some ns) (hb : b = wideOf ns) :
    encs tab (slots.take i) ++ [(16 * if b = true then 1 else 0) + n] ++ ns.flatMap (numOcts b) = encs tab (slots.take (i + 1)) := by
  subst hb
  rw [List.take_add_one, h]
  unfold encs
  simp only [Option.toList_some, List.flatMap_append, List.flatMap_cons, List.flatMap_nil, List.append_nil, ht, Option.getD_some, enc1, List.append_assoc, List.singleton_append]
  rfl
theorem flat_len (ns : List Int) (b : Bool) : (ns.flatMap (numOcts b)).length ≤ 2 * ns.length := by
  induction ns with
  | nil => simp
  | cons n r ih => rw [List.flatMap_cons, List.length_append, List.length_cons]; have : (numOcts b n).length ≤ 2 := by unfold numOcts; split <;> simp
                   omega
theorem word_w17 : True := by
  k_with "binaryOp Add bytes bytes" => ((fail_if_success k_extra "off_laid"); k_here; (with_unfolding_all refine' add_byteArr ?x ?y ?_); (case x => first | omega | (simp only [List.length_append, List.length_cons, List.length_nil]; omega)); (case y => exact Nat.le_of_ble_eq_true rfl); intro t' k'; (revert t' k'; intros))
  trivial
theorem word_w18 : True := by
  k_with "call builtin:max" => ((fail_if_success k_extra "off_laid"); k_here; (with_reducible show wpAny _ _ (call (Value.builtin _) [Value.ref _]) _ _ _); (with_unfolding_all refine' max_tupN ?k6 ?k1 ?k2 ?k3 ?k4 ?k5 ?_; (case k1 => k_asm); (case k2 => k_asm); (case k3 => assumption); (case k4 => assumption); (case k5 => assumption); (case k6 => with_unfolding_all rfl); k_whole); intro h' M' t' k' F' N' a' b'; (revert h' M' t' k' F' N' a' b'; intros); k_sweep)
  trivial
theorem word_w19 : True := by
  k_with "call builtin:min" => ((fail_if_success k_extra "off_laid"); k_here; (with_reducible show wpAny _ _ (call (Value.builtin _) [Value.ref _]) _ _ _); (with_unfolding_all refine' min_tupN ?k6 ?k1 ?k2 ?k3 ?k4 ?k5 ?_; (case k1 => k_asm); (case k2 => k_asm); (case k3 => assumption); (case k4 => assumption); (case k5 => assumption); (case k6 => with_unfolding_all rfl); k_whole); intro h' M' t' k' F' N' a' b'; (revert h' M' t' k' F' N' a' b'; intros); k_sweep)
  trivial
theorem word_w20 : True := by
  k_with "compareOp NotIn int ref" => ((fail_if_success k_extra "off_laid"); k_here; first | (refine held_notin_no (by assumption) (by k_asm) (by assumption) ?_) | (refine held_notin_yes (by assumption) (by k_asm) (by assumption) ?_))
  trivial
theorem word_w21 : True := by
  k_with "subscriptTail" => ((fail_if_success k_extra "off_laid"); k_here; (with_reducible show wpAny _ _ (subscriptTail _ _ (Value.ref _) (Value.int _ _)) _ _ _); with_unfolding_all refine' held_item ?k1 ?k2 ?k3 ?_ ?k4 ?k5; (case k1 => assumption); (case k2 => k_asm); (case k3 => assumption); (case k4 => with_unfolding_all rfl); (case k5 => intro _; with_unfolding_all rfl); k_whole)
  trivial
theorem word_w22 : True := by
  k_with "exec For Name Name cons nil" => ((fail_if_success k_extra "off_laid"); refine stop_of ?_)
  trivial
theorem word_w23 : True := by
  k_with "exec For Name Subscript cons nil" => ((fail_if_success k_extra "off_laid"); refine stop_of ?_)
  trivial
theorem word_w24 : True := by
  k_with "pyIter ref" => ((fail_if_success k_extra "off_laid"); refine stop_of ?_)
  trivial
section
variable {prog : Program} {w : World} {p : Program} {loose : List Str} {mean : ExcName → Option Value} {mg mb : Str → Option Value} {dp un : Nat} {gd : Option (List Code)} {cn : Str} {cs : Scope} {a : Addr} {ccd : Value} {cl : List (Str × Addr)} {outer : List Env} {A₀ : Around} {base h₀ : Heap} {L : Addr} {m : Str → Option Value} {s : Shared} {Q E : Value → Shared → Prop}
variable (B : Below A₀ base outer h₀) (F : Fr h₀ L s.heap m) (X : (hd.heap_1 w.params).In h₀) (T : Top p loose mean mg mb h₀) (hk : cs.kind = .function)
include B F X T hk
set_option maxHeartbeats 4000000 in
theorem laid_spec {Sl d : Addr} {vs : List Value} {slots : List Int} {kvs : List (Int × Value)} {tab : Int → Option (List Int)} (hl : s.heap.IsList Sl vs.toArray) (iL : IntsAre vs slots) (hsl : slots.length ≤ 4) (hr : ∀ k ∈ slots, 0 ≤ k ∧ k ≤ 3) (H : Held prog w s.heap d kvs tab)
    (hdp : dp + 4 < recursionLimit) (hun : un + 32 < cLine)
    (retT : ∀ U t h' tk', (∃ k ∈ slots, tab k = none) → (∀ b o, s.heap.get? b = some o → h'.get? b = some o) → Made s.heap h' [(U, tupObj #[.str (Str.ofString "table") t, .none])] → Q (.ref U) { s with heap := h', toks := tk' })
    (retS : ∀ U t h' tk', (∀ k ∈ slots, tab k ≠ none) → (∃ k ∈ slots, ∃ ns, tab k = some ns ∧ badOf ns = true) → (∀ b o, s.heap.get? b = some o → h'.get? b = some o) → Made s.heap h' [(U, tupObj #[.str (Str.ofString "segment") t, .none])] → Q (.ref U) { s with heap := h', toks := tk' })
    (retO : ∀ U t R xs c tups h' tk', (∀ k ∈ slots, ∃ ns, tab k = some ns ∧ badOf ns = false) → (∀ b o, s.heap.get? b = some o → h'.get? b = some o) → Made s.heap h' ((U, tupObj #[.bytes (byteArr (encs tab slots)) t, .ref R]) :: (R, W.listOf (List.toArray xs) c) :: tups) → RowsMem kvs tab slots xs tups → Q (.ref U) { s with heap := h', toks := tk' }) :
    wpAny (model prog w) (ktrTop dp un gd cn cs L a ccd cl outer) (call (.ref 376) [.ref Sl, .ref d]) Q E s := by
  refine wpAny_call ?_
  k_dflt cell_enter
  k_steps
  unfold Stop
  refine wpAny_For ?_
  k_steps
  unfold Stop
  rename_i L' h5 B' X' T' tk0 R h4 q1 U h3 q2 h2 h1 h0 F1 N1
  refine listLoopA (Inv := VarInv (Str.ofString "slot") _ _ fun i => ∀ j k, j < i → slots[j]? = some k → tab k ≠ none) rfl (fun I i v s' Q' E' _ hq => wpAny_of_eq rfl hq) PassesOwn.leaving F1 N1 (.inl hl) ⟨⟨_, updSelf _ _⟩, rfl, by simp⟩ ?_ ?_
  · rintro I i v oI m₁ nw h tk hi' hv ⟨⟨ov, rfl⟩, rfl, hc⟩ F2 N2 off hs
    obtain ⟨n, t, rfl, hn⟩ := IntsAre.at iL i v (by simpa using hv)
    clear F1 N1
    have off0 := off
    simp only [LCg.Off1, and_true] at off
    cases htab : tab n with
    | none =>
      k_steps
      exact retT _ _ _ _ ⟨n, List.mem_of_getElem? hn, htab⟩ (Fr.keep (by assumption)) (Made.one (by assumption) (by k_mem))
    | some ns =>
      obtain ⟨Tn, us, hT1, hT2, hT3, hT4, hT5, hT6⟩ := H.yes _ _ htab
      k_steps
      exact ⟨_, _, _, _, rfl, by assumption, by assumption, off0, hs, ⟨_, updTwice _ _ _ _⟩, rfl, fun j k hj hk e => by
        rcases Nat.lt_succ_iff_lt_or_eq.mp hj with q | q
        · exact hc j k q hk e
        · subst q; rw [hn] at hk; cases hk; rw [htab] at e; cases e⟩
  · rintro h tk m₁ nw ⟨⟨ov, rfl⟩, rfl, hc⟩ F2 N2
    clear F1 N1
    have hall : ∀ k ∈ slots, tab k ≠ none := fun k hk => by
      obtain ⟨j, hj⟩ := List.getElem?_of_mem hk
      have := iL.length
      exact hc j k (by have := (List.getElem?_eq_some_iff.mp hj).1; simp; omega) hj
    k_steps
    unfold Stop
    refine wpAny_For ?_
    k_steps
    unfold Stop
    refine listLoopA (Inv := LaidInv _ R kvs tab slots) rfl (fun I i v s' Q' E' _ hq => wpAny_of_eq rfl hq) PassesOwn.leaving F2 (newsSwap N2) (.inl hl) (LaidInv.start rfl (by intro p hp; rw [List.mem_singleton.mp hp]; exact Ne.symm (Nat.ne_of_lt q2))) ?_ ?_
    · rintro I i v oI m₁ nw h tk hi' hv ⟨⟨on, t, ow, os, xs, c, tups, rfl, rfl, htR, hxl, hrow⟩, hlen, hgood⟩ F3 N3 off hs
      obtain ⟨n, tn, rfl, hn⟩ := IntsAre.at iL i v (by simpa using hv)
      clear F2 N2
      have off0 := off
      simp only [LCg.Off1, and_true] at off
      obtain ⟨ns, htab⟩ := Option.ne_none_iff_exists'.mp (hall n (List.mem_of_getElem? hn))
      obtain ⟨Tn, us, hT1, hT2, hT3, hT4, hT5, hT6⟩ := H.yes _ _ htab
      obtain ⟨hn0, hn1⟩ := hr n (List.mem_of_getElem? hn)
      have hmem := List.mem_of_getElem? hn
      have hi4 : i < 4 := by have := iL.length; simp at hi'; omega
      k_steps
      · exact retS _ _ _ _ hall ⟨n, hmem, ns, htab, bad_lo (by assumption) (by assumption)⟩ (Fr.keep (by assumption)) (Made.one (by assumption) (by k_mem))
      · exact retS _ _ _ _ hall ⟨n, hmem, ns, htab, bad_hi (by assumption) (by assumption)⟩ (Fr.keep (by assumption)) (Made.one (by assumption) (by k_mem))
      rename_i M2 t4 k4 a2 b2 h5 tk1 h4 M1 t3 k3 a1 b1 hlo h3 M0 t2 k2 a0 b0 hhi tkx lx h2x ll h1x t1 k1 hB tz kz hz F4 N4
      have good := good_of hlo hhi b1 b0
      clear hB
      unfold Stop
      refine wpAny_For ?_
      k_steps
      unfold Stop
      refine tupLoopA (Inv := ByteInv _ _ (encs tab (slots.take i) ++ [(16 * if decide (255 < M2) = true then 1 else 0) + n]) (decide (255 < M2)) ns) rfl (fun I i v s' Q' E' _ hq => wpAny_of_eq rfl hq) PassesOwn.leaving F4 N4 hT2 (ByteInv.start rfl) ?_ ?_
      · rintro I' i' v' oI' m₁ nw h tk hi'' hv' ⟨⟨on', t', rfl⟩, rfl⟩ F5 N5 off5 _
        obtain ⟨x, tx, rfl, hx⟩ := IntsAre.at hT3 i' v' (by simpa using hv')
        have hx1 := b2 x (List.mem_of_getElem? hx)
        have hx2 := b1 x (List.mem_of_getElem? hx)
        have hx3 := b0 x (List.mem_of_getElem? hx)
        have hfl : (List.flatMap (numOcts (decide (255 < M2))) (List.take i' ns)).length ≤ 32 := Nat.le_trans (flat_len _ _) (by rw [List.length_take]; omega)
        clear F4 N4
        have off6 := off5
        simp only [LCg.Off1, and_true] at off5
        k_steps
        · refine ⟨_, _, _, _, rfl, ‹Fr _ _ _ _›, newsDrop ‹News _ _ _ _›, off6, trivial, ⟨⟨_, _, (upd21 (by decide) _ _ _ _ _).trans (by rw [← take_next hx, show numOcts (decide (255 < M2)) x = [x.fdiv 256, x.fmod 256] from by unfold numOcts; rw [if_pos (decide_eq_true ‹_›)]])⟩, rfl⟩⟩
        · refine ⟨_, _, _, _, rfl, ‹Fr _ _ _ _›, newsDrop ‹News _ _ _ _›, off6, trivial, ⟨⟨_, _, (upd21 (by decide) _ _ _ _ _).trans (by rw [← take_next hx, show numOcts (decide (255 < M2)) x = [x] from by unfold numOcts; rw [if_neg (by simpa using ‹¬ 255 < M2›)]])⟩, rfl⟩⟩
      · rintro h tk m₁ nw ⟨⟨on', t', rfl⟩, rfl⟩ F5 N5
        clear F4 N4
        k_steps
        rename_i tkw D' h8 l9 h9 F9 N9
        have hE : encs tab (slots.take i) ++ [(16 * if decide (255 < M2) = true then 1 else 0) + n] ++ List.flatMap (numOcts (decide (255 < M2))) (List.take us.toArray.size ns) = encs tab (slots.take (i + 1)) := by
          rw [show us.toArray.size = ns.length from by rw [List.size_toArray]; exact hT3.length, List.take_length]
          exact encs_next hn htab (wide_eq a2 b2)
        have hW : (if decide (255 < M2) = true then (1 : Int) else 0) = wideInt ns := by unfold wideInt; rw [← wide_eq a2 b2]
        rw [hE] at F9
        rw [hW] at N9
        have hrb : n.toNat = n.toNat := rfl
        refine ⟨h9, _, _, (R, listOf (List.toArray (xs ++ [Value.ref D'])) (c + 1)) :: (D', rowTup n tn (wideInt ns) tkw (.ref Tn)) :: tups, rfl, F9, ?_, ⟨off.1, Ne.symm (Nat.ne_of_lt l9.2.1), off.2⟩, .inl hl, ⟨⟨_, _, _, _, _, _, _, upd4 _ _ _ _ _ _ _ _ _ _, rfl, ?_, by simp [hxl], ?_⟩, ?_, ?_⟩⟩
        · intro p hp
          rw [← List.push_toArray] at hp
          rcases List.mem_cons.mp hp with rfl | hp
          · exact N9 _ (.tail _ (.tail _ (.head _)))
          · rcases List.mem_cons.mp hp with rfl | hp
            · exact N9 _ (.tail _ (.tail _ (.tail _ (.head _))))
            · rcases List.mem_cons.mp hp with rfl | hp
              · exact N9 _ (.head _)
              · exact N9 _ (.tail _ (.tail _ (.tail _ (.tail _ hp))))
        · intro p hp
          rcases List.mem_cons.mp hp with rfl | hp
          · exact Ne.symm (Nat.ne_of_lt l9.2.2.1)
          · exact htR p hp
        · intro j k hj hk
          rcases Nat.lt_succ_iff_lt_or_eq.mp hj with q | q
          · obtain ⟨Ti, t0, wt, v0, ns0, e1, e2, e3, e4⟩ := hrow j k q hk
            exact ⟨Ti, t0, wt, v0, ns0, by rw [List.getElem?_append_left (by omega)]; exact e1, e2, e3, .tail _ e4⟩
          · subst q
            rw [hn] at hk; cases hk
            exact ⟨D', tn, _, .ref Tn, ns, by rw [List.getElem?_append_right (by omega), hxl]; simp, htab, hT1, .head _⟩
        · rw [← hE]
          have := flat_len (List.take us.toArray.size ns) (decide (255 < M2))
          have h16 : (List.take us.toArray.size ns).length ≤ 16 := by rw [List.length_take]; omega
          simp only [List.length_append, List.length_cons, List.length_nil]; omega
        · intro j k hj hk
          rcases Nat.lt_succ_iff_lt_or_eq.mp hj with q | q
          · exact hgood j k q hk
          · subst q; rw [hn] at hk; cases hk; exact ⟨ns, htab, good⟩
    · rintro h tk m₁ nw ⟨⟨on, t, ow, os, xs, c, tups, rfl, rfl, htR, hxl, hrow⟩, hlen, hgood⟩ F3 N3
      clear F2 N2
      k_steps
      have hvl : vs.toArray.size = slots.length := by rw [List.size_toArray]; exact iL.length
      have hidx : ∀ k ∈ slots, ∃ j : Nat, j < slots.length ∧ slots[j]? = some k := fun k hk => by
        obtain ⟨j, hj⟩ := List.getElem?_of_mem hk
        exact ⟨j, (List.getElem?_eq_some_iff.mp hj).1, hj⟩
      rename_i D' h9 F9 N9 l9
      rw [hvl, List.take_length] at N9
      refine retO D' t R xs c tups h9 _ (fun k hk => ?_) F9.keep (Made.of_news N9) ⟨by rw [hxl, hvl], fun j k hk => ?_⟩
      · obtain ⟨j, hj, hk⟩ := hidx k hk
        exact hgood j k (by rw [hvl]; exact hj) hk
      · obtain ⟨Ti, t0, wt, v0, ns0, e1, e2, e3, e4⟩ := hrow j k (by rw [hvl]; exact (List.getElem?_eq_some_iff.mp hk).1) hk
        exact ⟨Ti, t0, wt, v0, ns0, e1, e2, e3, e4⟩
end

end
theorem off_laid : True := by
  k_with "off_laid" => skip
  trivial


theorem fresh_quantof {prog : Program} {w : World} {A : Around} {E : Value → Shared → Prop} {s : Shared} {env : Env} {Q : Flow → Shared → Prop} (h : Q .next s) : wpAny (model prog w) A (execs [] env) Q E s := by
  w_top off
  first | (walk1; done) | (walk1; exact h) | exact wpAny_execs_nil h
section
/-! «Tables.quant_of» -/
theorem inst_keeps {h h' : Heap} {x C : Addr} {ox : Obj} {od : Option Obj} (I : InstAt h x ox C od) (k : ∀ b o, h.get? b = some o → h'.get? b = some o) : InstAt h' x ox C od := by
  obtain ⟨a, b, c, d⟩ := I
  refine ⟨k _ _ a, b, c, ?_⟩
  cases hx : ox.dict with
  | none => rw [hx] at d; cases od <;> first | exact d | trivial
  | some dx => rw [hx] at d; cases od <;> first | exact k _ _ d | exact d
theorem word_w25 : True := by
  k_with "compareOp NotIn int ref" => ((fail_if_success k_extra "off_quantof"); k_here; first | (refine held_notin_no (by assumption) (by k_asm) (by assumption) ?_) | (refine held_notin_yes (by assumption) (by k_asm) (by assumption) ?_))
  trivial
theorem word_w26 : True := by
  k_with "subscriptTail" => ((fail_if_success k_extra "off_quantof"); k_here; (with_reducible show wpAny _ _ (subscriptTail _ _ (Value.ref _) (Value.int _ _)) _ _ _); with_unfolding_all refine' held_item ?k1 ?k2 ?k3 ?_ ?k4 ?k5; (case k1 => assumption); (case k2 => k_asm); (case k3 => assumption); (case k4 => with_unfolding_all rfl); (case k5 => intro _; with_unfolding_all rfl); k_whole)
  trivial
local macro_rules | `(tactic| k_inst) => `(tactic| exact inst_keeps (by assumption) (Fr.keep (by k_asm)))
local macro_rules | `(tactic| k_get) => `(tactic| assumption)
section
variable {prog : Program} {w : World} {p : Program} {loose : List Str} {mean : ExcName → Option Value} {mg mb : Str → Option Value} {dp un : Nat} {gd : Option (List Code)} {cn : Str} {cs : Scope} {a : Addr} {ccd : Value} {cl : List (Str × Addr)} {outer : List Env} {A₀ : Around} {base h₀ : Heap} {L : Addr} {m : Str → Option Value} {s : Shared} {Q E : Value → Shared → Prop}
variable (B : Below A₀ base outer h₀) (F : Fr h₀ L s.heap m) (X : (hd.heap_1 w.params).In h₀) (T : Top p loose mean mg mb h₀) (hk : cs.kind = .function)
include B F X T hk
set_option maxHeartbeats 4000000 in
theorem quantOf_spec {T q : Addr} {ox : Obj} {es : List DictEntry} {n : Nat} {kvs : List (Int × Value)} {tab : Int → Option (List Int)} {slot : Int} {ts : Tok} (I : InstAt s.heap T ox 339 (some (dictOf es n))) (hq : getL (Str.ofString "quant") es = some (some (.ref q))) (H : Held prog w s.heap q kvs tab)
    (hdp : dp + 10 < recursionLimit) (hun : un + 40 < cLine) (hs0 : 0 ≤ slot) (hs1 : slot ≤ 3)
    (ret : ∀ v ns h' tk', tab slot = some ns → valueAt kvs slot = some v → (∀ b o, s.heap.get? b = some o → h'.get? b = some o) → Q v { s with heap := h', toks := tk' })
    (exc : tab slot = none → ∀ e h' tk', Flew s.heap (envX cn cs L a ccd cl :: outer) e 85 h' → E (.ref e) { s with heap := h', toks := tk' }) :
    wpAny (model prog w) (ktrTop dp un gd cn cs L a ccd cl outer) (call (.ref 329) [.ref T, .int slot ts]) Q E s := by
  refine wpAny_call ?_
  cases htab : tab slot with
  | none =>
    k_dflt cell_enter
    k_steps
    exact exc htab _ _ _ (by assumption)
  | some ns =>
    obtain ⟨Tn, us, hT1, hT2, hT3, hT4, hT5, hT6⟩ := H.yes _ _ htab
    k_dflt cell_enter
    k_steps
    exact ret _ _ _ _ htab hT1 (Fr.keep (by assumption))
end

end
theorem off_quantof : True := by
  k_with "off_quantof" => skip
  trivial

local macro_rules | `(tactic| k_inst) => `(tactic| exact inst_keeps (by assumption) (Fr.keep (by k_asm)))
local macro_rules | `(tactic| k_get) => `(tactic| assumption)


theorem fresh_putkind {prog : Program} {w : World} {A : Around} {E : Value → Shared → Prop} {s : Shared} {env : Env} {Q : Flow → Shared → Prop} (h : Q .next s) : wpAny (model prog w) A (execs [] env) Q E s := by
  w_top off
  first | (walk1; done) | (walk1; exact h) | exact wpAny_execs_nil h
section
/-! «put_kind», over clean contexts -/
theorem keeper_builtin {M : Model} {id : String} (h : Heap) (_ : True) : ∃ k, (k = Keeper.frame ∨ k = Keeper.machine ∨ k = Keeper.boundFrame) ∧ Looks M h (keeperOf (.builtin id)) k := ⟨.machine, .inr (.inl rfl), Looks.of_pure rfl⟩
theorem keeper_type {M : Model} {id : String} (h : Heap) (_ : True) : ∃ k, (k = Keeper.frame ∨ k = Keeper.machine ∨ k = Keeper.boundFrame) ∧ Looks M h (keeperOf (.type id)) k := ⟨.machine, .inr (.inl rfl), Looks.of_pure rfl⟩
theorem word_w27 : True := by
  k_with "getMethod ref" => ((fail_if_success k_extra "off_putkind"); k_here; first | (refine method_ba_append (News.get (by k_asm) (by k_dflt k_mem)) ?_) | (refine method_ba_extend (News.get (by k_asm) (by k_dflt k_mem)) ?_))
  trivial
section
variable {prog : Program} {w : World} {p : Program} {loose : List Str} {mean : ExcName → Option Value} {mg mb : Str → Option Value} {dp un : Nat} {gd : Option (List Code)} {cn : Str} {cs : Scope} {a : Addr} {ccd : Value} {cl : List (Str × Addr)} {outer : List Env} {A₀ : Around} {base h₀ : Heap} {L : Addr} {m : Str → Option Value} {s : Shared} {Q E : Value → Shared → Prop}
variable (B : Below A₀ base outer h₀) (F : Fr h₀ L s.heap m) (X : (hd.heap_1 w.params).In h₀) (T : Top p loose mean mg mb h₀) (hk : cs.kind = .function)
include B F X T hk
set_option maxHeartbeats 4000000 in
theorem putKind_spec {S : Addr} {b : Array UInt8} {kind slot : Int} {t1 t2 t3 : Tok} (hS : s.heap.get? S = some (baObj b)) (hSL : S ≠ L) (hS0 : h₀.get? S = none) (hb : b.size ≤ 1000)
    (hdp : dp + 10 < recursionLimit) (hun : un + 40 < cLine) (hk0 : 0 ≤ kind) (hk1 : kind ≤ 1) (hs0 : 0 ≤ slot) (hs1 : slot ≤ 3)
    (ret : ∀ h' tk', (∀ c o, c ≠ S → s.heap.get? c = some o → h'.get? c = some o) → h'.get? S = some (baObj (b.push (kind * 16 + slot).toNat.toUInt8)) → Q .none { s with heap := h', toks := tk' }) :
    wpC (model prog w) (ktrTop dp un gd cn cs L a ccd cl outer) (call (.ref 181) [.ref S, .int kind t1, .int 1 t2, .int slot t3]) Q E s := by
  refine wpC_call ?_
  k_dflt (refine' enterC ?k1 ?k2 ?k3 ?k5 ?kA ?kF ?kK [(S, baObj b)] (news1 hS hSL hS0) ?k6 ?k7 ?k8 ?k9 ?kB ?_ ?c2 ?c3 ?c4 ?c5; (case kA => exact rfl); (case kF => exact rfl); (case kK => assumption); (case k1 => k_asm); (case k2 => k_asm); (case k3 => k_asm); (case k5 => k_asm); (case k6 => k_is); (case k7 => k_is); (case k8 => ktr_room); (case k9 => exact BindsTo.of_eq rfl); (case c5 => decide); (case kB => exact locs rfl); (case c2 => exact rfl); (case c3 => exact rfl); (case c4 => exact rfl); k_whole; intro g' L' h' hg' F' N' l1 B' X' T'; (try dsimp only); (try k_fold))
  have hh := hide1 hg'
  clear hg' hS
  refine execsC_A ?_
  k_steps
  refine execsC_last (execC_Expr (evalC_methodCall ?_))
  k_steps
  refine callWithC_of keeper_builtin (wpC_of ?_)
  k_steps
  · trivial
  have N9 := ‹News _ _ _ _›
  have F9 := ‹Fr g' _ _ _›
  refine ba_append (News.get N9 (by k_mem)) (by omega) (by omega) (by rw [sizeLine_eq]; omega) fun h2 e1 e2 => ?_
  exact ret _ _ (fun c o hc e => (e2.2 c hc).trans (F9.keep c o (hh c o hc e))) e1
end

end
theorem off_putkind : True := by
  k_with "off_putkind" => skip
  trivial


theorem fresh_writequant {prog : Program} {w : World} {A : Around} {E : Value → Shared → Prop} {s : Shared} {env : Env} {Q : Flow → Shared → Prop} (h : Q .next s) : wpAny (model prog w) A (execs [] env) Q E s := by
  w_top off
  first | (walk1; done) | (walk1; exact h) | exact wpAny_execs_nil h
section
/-! «write_quant», over clean contexts -/
theorem grow_both {h₀ h h' : Heap} {L : Addr} {m : Str → Option Value} {news : List (Addr × Obj)} (F : Fr h₀ L h m) (N : News h₀ L h news) (k : ∀ b o, h.get? b = some o → h'.get? b = some o) : Fr h₀ L h' m ∧ News h₀ L h' news := ⟨F.grownK k, N.grown k⟩
theorem go_any {prog : Program} {w : World} {A : Around} {E : Value → Shared → Prop} {s : Shared} {elts : List PySem.Expr} {x1 : Nat} {pos : Pos} {I l : Addr} {i : Nat} {v : Value} {Q : Unit → Shared → Prop} (hit : s.heap.IsListIter I l i) (hQ : Q () s) :
    wpAny (model prog w) A (letOwnedTupleGo (.Tuple elts x1 pos) (.ref I) v) Q E s := by
  cases v with
  | ref a => exact wpAny_letOwnedTupleGo_listiter hit hQ
  | _ => exact wpAny_pure hQ
theorem callWithC_nil {M : Model} {A : Around} {E : Value → Shared → Prop} {s : Shared} {env : Env} {P : Heap → Prop} {pos : Pos} {f : Value} {first : List Value} {Q : Value → Shared → Prop}
    (hk : ∀ h, P h → ∃ k, (k = Keeper.frame ∨ k = Keeper.machine ∨ k = Keeper.boundFrame) ∧ Looks M h (keeperOf f) k) (hP : P s.heap)
    (h : wpC M A (call f first) Q E s) : wpC M A (callWith pos f first (backTo pos (starEach [] env)) []) Q E s := by
  have h' : wpC M A (evalArgs f true [] []) (fun a s₁ => P s₁.heap ∧ wpC M A (call f (first ++ a.pos) a.kw) Q E s₁) E s := by
    refine wpC_of ?_
    unfold evalArgs
    show wpAny M A (spliced [] >>= _) _ E s
    refine wpAny_bind (Calls.spliced_nil (wpAny_bind (wpAny_pure ?_)))
    exact wpAny_holding (wpAny_bind (wpAny_pure (wpAny_bind (wpAny_pure (wpAny_pure ⟨hP, by rw [List.append_nil]; exact h⟩)))))
  show wpC M A (callWith pos f first [] []) Q E s
  unfold callWith
  refine wpC_bind (wpC_holding (wpC_mono h' (fun a s₁ h₁ => wpC_bindA (wpAny_standAt ?_)) fun _ _ x => x))
  obtain ⟨k, hk', L⟩ := hk _ h₁.1
  simp only [List.any_nil, Bool.or_false]
  refine wpC_bindA (L.here ?_)
  have tail : ∀ {t : Sem Value}, wpC M A t Q E s₁ → wpC M A (t >>= fun r => holding [r] point >>= fun _ => pure r) Q E s₁ :=
    fun ht => wpC_bind (wpC_mono ht (fun r s₂ hr => wpC_of (wpAny_bind (wpAny_holding (wpAny_point (wpAny_pure hr))))) fun _ _ x => x)
  have marked (mk : Value) : wpC M A (callMarked mk f (first ++ a.pos) a.kw) Q E s₁ := by unfold callMarked; exact wpC_keep h₁.2
  rcases hk' with rfl | rfl | rfl <;> dsimp only <;> first | exact tail h₁.2 | (split <;> first | exact tail h₁.2 | exact tail (marked _))
/-- rows as write_quant reads them -/
structure RowsIn (h : Heap) (rs : List (Int × List Int)) (xs : List Value) : Prop where
  len : xs.length = rs.length
  row : ∀ (i : Nat) k ns, rs[i]? = some (k, ns) → ∃ Ti t wt Tn us, xs[i]? = some (.ref Ti) ∧ IsTup h Ti #[.int k t, .int (wideInt ns) wt, .ref Tn] ∧ IsTup h Tn us.toArray ∧ IntsAre us ns ∧ ns.length ≤ 16 ∧ 0 ≤ k ∧ k ≤ 3
theorem updA {A B C D : Str} (a' b' c' d' a b c d : Option Value) (m : Str → Option Value) :
    (fun y => if y = A then a' else if y = B then b' else if y = C then c' else if y = D then d' else if y = A then a else if y = B then b else if y = C then c else if y = D then d else m y) =
      fun y => if y = A then a' else if y = B then b' else if y = C then c' else if y = D then d' else m y := by
  funext y
  by_cases h1 : y = A
  · simp only [if_pos h1]
  · by_cases h2 : y = B
    · simp only [if_neg h1, if_pos h2]
    · by_cases h3 : y = C
      · simp only [if_neg h1, if_neg h2, if_pos h3]
      · by_cases h4 : y = D
        · simp only [if_neg h1, if_neg h2, if_neg h3, if_pos h4]
        · simp only [if_neg h1, if_neg h2, if_neg h3, if_neg h4]
theorem updB {A B C D : Str} (m : Str → Option Value) : m = fun y => if y = A then m A else if y = B then m B else if y = C then m C else if y = D then m D else m y := by
  funext y
  by_cases h1 : y = A
  · simp [h1]
  · by_cases h2 : y = B
    · subst h2; simp [h1]
    · by_cases h3 : y = C
      · subst h3; simp [h1, h2]
      · by_cases h4 : y = D
        · subst h4; simp [h1, h2, h3]
        · simp [h1, h2, h3, h4]
def encR (rs : List (Int × List Int)) : List Int := rs.flatMap fun r => enc1 r.1 r.2
structure WqInv (m0 : Str → Option Value) (S : Addr) (rs : List (Int × List Int)) (i : Nat) (m₁ : Str → Option Value) (nw : List (Addr × Obj)) : Prop where
  ex : ∃ a b c d, m₁ = fun y => if y = Str.ofString "divisor" then a else if y = Str.ofString "divisors" then b else if y = Str.ofString "precision" then c else if y = Str.ofString "slot" then d else m0 y
  hn : nw = [(S, baObj (byteArr (encR (rs.take i))))]
  len : (encR (rs.take i)).length ≤ 33 * i
  good : ∀ r ∈ rs.take i, badOf r.2 = false
structure WnInv (m0 : Str → Option Value) (nw0 : List (Addr × Obj)) (S : Addr) (E0 : List Int) (b : Bool) (ns : List Int) (i : Nat) (m₁ : Str → Option Value) (nw : List (Addr × Obj)) : Prop where
  ex : ∃ a, m₁ = fun y => if y = Str.ofString "divisor" then a else m0 y
  hn : ∃ E1, E1 = E0 ++ (ns.take i).flatMap (numOcts b) ∧ nw = (S, baObj (byteArr E1)) :: nw0
  good : ∀ n ∈ ns.take i, 1 ≤ n ∧ n ≤ 65535
theorem wideInt_lo (ns : List Int) : 0 ≤ wideInt ns := by unfold wideInt; split <;> decide
theorem wideInt_hi (ns : List Int) : wideInt ns ≤ 1 := by unfold wideInt; split <;> decide
theorem wide_of_one {ns : List Int} (h : wideInt ns = 1) : wideOf ns = true := by
  unfold wideInt at h
  by_cases q : wideOf ns = true
  · exact q
  · rw [if_neg q] at h; cases h
theorem narrow_of {ns : List Int} (h : ¬ wideInt ns = 1) : wideOf ns = false := by
  cases q : wideOf ns with
  | false => rfl
  | true => exact absurd (by unfold wideInt; rw [q]; rfl) h
theorem narrow_le {ns : List Int} (h : wideOf ns = false) {x : Int} (hx : x ∈ ns) : x ≤ 255 := by
  have := List.any_eq_false.mp h x hx
  simp only [decide_eq_true_eq] at this; omega
theorem bad_of_check {ns : List Int} {x : Int} (hx : x ∈ ns) (q : ¬(1 ≤ x ∧ x ≤ if wideInt ns = 1 then 65535 else 255)) : badOf ns = true := by
  by_cases h : wideInt ns = 1
  · rw [if_pos h] at q
    by_cases h1 : x < 1
    · exact bad_lo h1 hx
    · exact bad_hi (M := x) (by omega) hx
  · rw [if_neg h] at q
    have := narrow_le (narrow_of h) hx
    exact bad_lo (by omega) hx
theorem good_of_all {ns : List Int} (h : ∀ n ∈ ns, 1 ≤ n ∧ n ≤ 65535) : badOf ns = false := List.any_eq_false.mpr fun a ha => by
  have := h a ha
  simp only [Bool.or_eq_true, decide_eq_true_eq]; omega
theorem take_good {ns : List Int} {j : Nat} {x : Int} (hx : ns[j]? = some x) (h : ∀ n ∈ ns.take j, 1 ≤ n ∧ n ≤ 65535) (h1 : 1 ≤ x) (h2 : x ≤ 65535) : ∀ n ∈ ns.take (j + 1), 1 ≤ n ∧ n ≤ 65535 := fun n hn => by
  rw [List.take_add_one, hx] at hn
  rcases List.mem_append.mp hn with hn | hn
  · exact h n hn
  · rw [Option.toList_some, List.mem_singleton] at hn; rw [hn]; exact ⟨h1, h2⟩
theorem encR_next {rs : List (Int × List Int)} {i : Nat} {k : Int} {ns : List Int} (h : rs[i]? = some (k, ns)) : encR (rs.take i) ++ [16 * wideInt ns + k] ++ ns.flatMap (numOcts (wideOf ns)) = encR (rs.take (i + 1)) := by
  rw [List.take_add_one, h]
  unfold encR
  simp only [Option.toList_some, List.flatMap_append, List.flatMap_cons, List.flatMap_nil, List.append_nil, enc1, List.append_assoc, List.singleton_append]
  rfl
theorem push_byteArr (xs : List Int) (n : Int) : (byteArr xs).push n.toNat.toUInt8 = byteArr (xs ++ [n]) := by simp [byteArr]
theorem word_w28 : True := by
  k_with "call type:bytes" => ((fail_if_success k_extra "off_writequant"); k_here; (with_reducible show wpAny _ _ (call (Value.type _) [Value.ref _]) _ _ _); (refine call_bytes_ba (News.get (by k_asm) (by k_dflt k_mem)) ?z ?_; (case z => rw [byteArr_size, sizeLine_eq]; omega)); intro t' k'; (revert t' k'; intros))
  trivial
theorem word_w29 : True := by
  k_with "exec For Name Name cons nil" => ((fail_if_success k_extra "off_writequant"); refine stop_of ?_)
  trivial
theorem word_w30 : True := by
  k_with "pyIter ref" => ((fail_if_success k_extra "off_writequant"); refine stop_of ?_)
  trivial
theorem word_w31 : True := by
  k_with "call ref" => ((fail_if_success k_extra "off_writequant"); k_here; (with_reducible show wpAny _ _ (call (Value.ref 118) [Value.int _ _]) _ _ _); k_dflt (refine' word_spec ?B ?F ?X ?T ?hk ?hdp ?hun ?h0 ?h1 ?_; (case B => assumption); (case F => k_asm); (case X => k_asm); (case T => k_asm); (case hk => exact rfl); (case hdp => ktr_room); (case hun => ktr_units); (case h0 => omega); (case h1 => omega); k_whole); intro t' h' tk' kp; (obtain ⟨F', N'⟩ := grow_both (by k_asm) (by k_asm) kp); (revert t' h' tk' kp F' N'; intros); k_sweep)
  trivial
theorem word_w32 : True := by
  k_with "call ref" => ((fail_if_success k_extra "off_writequant"); k_here; (with_reducible show wpAny _ _ (call (Value.ref 195) [Value.int _ _, Value.int _ _]) _ _ _); k_dflt (refine' check_spec ?B ?F ?X ?T ?hk ?hdp ?hun ?rxw32 ?exw32; (case B => assumption); (case F => k_asm); (case X => k_asm); (case T => k_asm); (case hk => exact rfl); (case hdp => ktr_room); (case hun => ktr_units); (case' rxw32 => (intro q1 q2 h' tk' kp; (obtain ⟨F', N'⟩ := grow_both (by k_asm) (by k_asm) kp); (revert q1 q2 h' tk' kp F' N'; intros); k_sweep)); (case' exw32 => (intro q1 e' h' tk' fl; (revert q1 e' h' tk' fl; intros)))))
  trivial
theorem word_w33 : True := by
  k_with "leaving ref" => ((fail_if_success k_extra "off_writequant"); k_here; k_dflt (refine' flew_next ?B ?F ?r ?_; (case r => assumption); (case B => assumption); (case F => assumption)); intro h' hfl'; (revert h' hfl'; intros))
  trivial
theorem word_w34 : True := by
  k_with "getMethod ref" => ((fail_if_success k_extra "off_writequant"); k_here; first | (refine method_ba_append (News.get (by k_asm) (by k_dflt k_mem)) ?_) | (refine method_ba_extend (News.get (by k_asm) (by k_dflt k_mem)) ?_))
  trivial
section
variable {prog : Program} {w : World} {p : Program} {loose : List Str} {mean : ExcName → Option Value} {mg mb : Str → Option Value} {dp un : Nat} {gd : Option (List Code)} {cn : Str} {cs : Scope} {a : Addr} {ccd : Value} {cl : List (Str × Addr)} {outer : List Env} {A₀ : Around} {base h₀ : Heap} {L : Addr} {m : Str → Option Value} {s : Shared} {Q E : Value → Shared → Prop}
variable (B : Below A₀ base outer h₀) (F : Fr h₀ L s.heap m) (X : (hd.heap_1 w.params).In h₀) (T : Top p loose mean mg mb h₀) (hk : cs.kind = .function)
include B F X T hk
set_option maxHeartbeats 4000000 in
theorem writeQuant_spec {R : Addr} {xs : List Value} {rs : List (Int × List Int)} (hR : s.heap.IsList R xs.toArray) (hrs : RowsIn s.heap rs xs) (hr4 : rs.length ≤ 4)
    (hdp : dp + 20 < recursionLimit) (hun : un + 80 < cLine)
    (ret : ∀ t h' tk', (∀ r ∈ rs, badOf r.2 = false) → (∀ c o, s.heap.get? c = some o → h'.get? c = some o) → Q (.bytes (byteArr (rs.flatMap fun r => enc1 r.1 r.2)) t) { s with heap := h', toks := tk' })
    (exc : (∃ r ∈ rs, badOf r.2 = true) → ∀ e h' tk', Flew s.heap (envX cn cs L a ccd cl :: outer) e 73 h' → E (.ref e) { s with heap := h', toks := tk' }) :
    wpC (model prog w) (ktrTop dp un gd cn cs L a ccd cl outer) (call (.ref 209) [.ref R]) Q E s := by
  refine wpC_call ?_
  k_dflt (refine' enterC0 ?k1 ?k2 ?k3 ?k5 ?kA ?kF ?kK ?k6 ?k7 ?k8 ?k9 ?kB ?_ ?c2 ?c3 ?c4 ?c5; (case kA => exact rfl); (case kF => exact rfl); (case kK => assumption); (case k1 => k_asm); (case k2 => k_asm); (case k3 => k_asm); (case k5 => k_asm); (case k6 => k_is); (case k7 => k_is); (case k8 => ktr_room); (case k9 => exact BindsTo.of_eq rfl); (case c5 => decide); (case kB => exact locs rfl); (case c2 => exact rfl); (case c3 => exact rfl); (case c4 => exact rfl); k_whole; intro L' h' F' N' B' X' T'; (try dsimp only); (try k_fold))
  refine execsC (execC_Assign (evalC_Call_ofName ?_))
  k_steps
  refine callWithC_nil keeper_type trivial (call_bytearray fun h1 e1 e2 => ?_)
  have F0 := ‹Fr s.heap L' h' _›
  have F1 := F0.grownK e2
  have N1 : News s.heap L' h1 [(h'.objs.size, baObj #[])] := fun p hp => by
    rw [List.mem_singleton.mp hp]; exact ⟨e1, Ne.symm (Nat.ne_of_lt F0.ns.lt), next_is_new F0⟩
  dsimp only at e1 ⊢
  clear e1 e2 F0
  generalize h'.objs.size = S at *
  k_sweep
  k_steps
  refine execsC (execC_For ?_)
  k_steps
  unfold Stop
  rename_i h2 F2 N2
  refine listLoopC (Inv := WqInv _ S rs) rfl (fun I i v s' Q' E' hit hq => go_any hit hq) PassesOwn.leaving F2 N2 (.inl hR) ⟨⟨_, _, _, _, updB _⟩, rfl, by simp [encR], by simp⟩ ?_ ?_
  · rintro I i v oI m₁ nw h tk hi' hv ⟨⟨da, db, dc, dd, rfl⟩, rfl, hlen, hgood⟩ F3 N3 off hs
    have hil : i < rs.length := by rw [← hrs.len]; simpa using hi'
    have hi4 : i < 4 := by omega
    obtain ⟨⟨k, ns⟩, hrk⟩ : ∃ r, rs[i]? = some r := ⟨_, List.getElem?_eq_getElem hil⟩
    obtain ⟨Ti, t1, wt, Tn, us, hx, hT1, hT2, hT3, hT4, hk0, hk1⟩ := hrs.row i k ns hrk
    have hw0 := wideInt_lo ns
    have hw1 := wideInt_hi ns
    have hv2 : v = .ref Ti := by simp only [List.getElem?_toArray] at hv; rw [hx] at hv; exact (Option.some.inj hv).symm
    subst hv2
    clear F2 N2 hv
    have off0 := off
    simp only [LCg.Off1, and_true] at off
    k_steps
    refine execsC (execC_Expr (evalC_Call_ofName ?_))
    k_steps
    refine callWithC_of (keeps_K (K := hd.heap_1 w.params) (by k_dflt k_is)) (wpC_of ?_)
    k_steps
    k_dflt (refine' putKind_spec ?B ?F ?X ?T ?hk ?hS ?hSL ?hS0 ?hb ?hdp ?hun ?k0 ?k1 ?s0 ?s1 ?_; (case B => assumption); (case F => k_asm); (case X => k_asm); (case T => k_asm); (case hk => exact rfl); (case hS => exact News.get (by k_asm) (by k_mem)); (case hSL => exact News.neAt (by k_asm) (by k_mem)); (case hS0 => exact News.newAt (by k_asm) (by k_mem)); (case hb => rw [byteArr_size]; omega); (case hdp => ktr_room); (case hun => ktr_units); (case k0 => exact hw0); (case k1 => exact hw1); (case s0 => exact hk0); (case s1 => exact hk1))
    intro h' tk' kp hS'
    (obtain ⟨F', N'⟩ := upd_news (by k_asm) (by k_asm) (by k_dflt k_updF) kp hS')
    (try dsimp only at N')
    rw [push_byteArr, Int.mul_comm] at N'
    k_sweep
    clear kp hS'
    (try dsimp only)
    refine execsC_last (execC_For ?_)
    k_steps
    unfold Stop
    have N9 := newsSwap ‹News _ _ _ _›
    have F9 := ‹Fr _ _ _ _›
    refine tupLoopC (Inv := WnInv _ _ S (encR (rs.take i) ++ [16 * wideInt ns + k]) (wideOf ns) ns) rfl (fun I i v s' Q' E' _ hq => wpAny_of_eq rfl hq) PassesOwn.leaving F9 N9 hT2 ⟨⟨_, updSelf _ _⟩, ⟨_, by simp, rfl⟩, by simp⟩ ?_ ?_
    · rintro J j v' oJ m₁ nw h tk hj hv' ⟨⟨dx, rfl⟩, ⟨E1, hE1, rfl⟩, hg2⟩ F5 N5 off5 _
      obtain ⟨x, tx, rfl, hxn⟩ := IntsAre.at hT3 j v' (by simpa using hv')
      clear F9 N9
      have off6 := off5
      simp only [LCg.Off1, and_true] at off5
      k_steps
      refine execsC_A ?_
      have hxm := List.mem_of_getElem? hxn
      have hjl : j < ns.length := (List.getElem?_eq_some_iff.mp hxn).1
      have hfl : (List.flatMap (numOcts (wideOf ns)) (List.take j ns)).length ≤ 32 := Nat.le_trans (flat_len _ _) (by rw [List.length_take]; omega)
      have hE1l : E1.length ≤ 300 := by rw [hE1]; simp only [List.length_append, List.length_cons, List.length_nil]; omega
      k_steps
      · exact exc ⟨(k, ns), List.mem_of_getElem? hrk, bad_of_check hxm (by assumption)⟩ _ _ _ (by assumption)
      · rename_i q1 q2 h9 tk9 kp F9 N9
        have hxA : x ≤ 65535 := by split at q2 <;> omega
        have hxB : wideInt ns = 1 ∨ x ≤ 255 := by by_cases h : wideInt ns = 1; exact .inl h; rw [if_neg h] at q2; exact .inr q2
        refine execsC_last (execC_Expr (evalC_methodCall ?_))
        k_steps
        refine callWithC_of keeper_builtin (wpC_of ?_)
        k_steps
        · trivial
        · have hw := wide_of_one ‹wideInt ns = 1›
          refine ba_extend (b := byteArr E1) (News.get (by k_asm) (by k_mem)) ?_ fun h2 e1 e2 => ?_
          · rw [byteArr_size, byteArr_size, sizeLine_eq]; simp only [List.length_cons, List.length_nil]; omega
          · obtain ⟨F7, N7⟩ := upd_news ‹Fr s.heap L' _ _› ‹News s.heap L' _ _› (by k_dflt k_updF) (fun b x hb e => (e2.2 b hb).trans e) e1
            rw [byteArr_append] at N7
            have hnext := take_next (b := wideOf ns) hxn (encR (rs.take i) ++ [16 * wideInt ns + k])
            rw [show numOcts (wideOf ns) x = [x.fdiv 256, x.fmod 256] from by unfold numOcts; rw [if_pos hw], ← hE1] at hnext
            exact ⟨_, _, _, _, rfl, F7, N7, off6, trivial, ⟨_, updTwice _ _ _ _⟩, ⟨_, hnext, rfl⟩, take_good hxn hg2 q1 hxA⟩
        · trivial
        · have hw := narrow_of ‹wideInt ns ≠ 1›
          refine ba_extend (b := byteArr E1) (News.get (by k_asm) (by k_mem)) ?_ fun h2 e1 e2 => ?_
          · rw [byteArr_size, sizeLine_eq]; simp only [List.size_toArray, List.length_map, List.length_cons, List.length_nil]; omega
          · obtain ⟨F7, N7⟩ := upd_news ‹Fr s.heap L' _ _› (newsDrop ‹News s.heap L' _ _›) (by k_dflt k_updF) (fun b x hb e => (e2.2 b hb).trans e) e1
            have N8 : News s.heap L' h2 [(J, oJ), (S, baObj (byteArr (E1 ++ [x]))), (I, oI)] := by rw [← byteArr_append]; exact N7
            have hnext := take_next (b := wideOf ns) hxn (encR (rs.take i) ++ [16 * wideInt ns + k])
            rw [show numOcts (wideOf ns) x = [x] from by unfold numOcts; rw [if_neg (by rw [hw]; exact Bool.false_ne_true)], ← hE1] at hnext
            exact ⟨_, _, _, _, rfl, F7, N8, off6, trivial, ⟨_, updTwice _ _ _ _⟩, ⟨_, hnext, rfl⟩, take_good hxn hg2 q1 hxA⟩
    · rintro h tk m₁ nw ⟨⟨dx, rfl⟩, ⟨E1, hE1, rfl⟩, hg2⟩ F5 N5
      have hus : us.toArray.size = ns.length := by rw [List.size_toArray]; exact hT3.length
      rw [hus, List.take_length] at hE1 hg2
      rw [encR_next hrk] at hE1
      subst hE1
      refine ⟨_, _, _, _, rfl, F5, newsSwap N5, off0, .inl hR, ⟨_, _, _, _, updA _ _ _ _ _ _ _ _ _⟩, rfl, ?_, ?_⟩
      · rw [← encR_next hrk]
        have := flat_len ns (wideOf ns)
        simp only [List.length_append, List.length_cons, List.length_nil]; omega
      · intro r hr
        rw [List.take_add_one, hrk] at hr
        rcases List.mem_append.mp hr with hr | hr
        · exact hgood r hr
        · rw [Option.toList_some, List.mem_singleton] at hr; rw [hr]; exact good_of_all hg2
  · rintro h tk m₁ nw ⟨⟨da, db, dc, dd, rfl⟩, rfl, hlen, hgood⟩ F5 N5
    have hxs : xs.toArray.size = rs.length := by rw [List.size_toArray]; exact hrs.len
    rw [hxs, List.take_length] at hlen hgood N5
    clear F2 N2
    refine wpC_of ?_
    k_steps
    exact ret _ _ _ hgood (Fr.keep (by assumption))
end

end
theorem off_writequant : True := by
  k_with "off_writequant" => skip
  trivial


theorem fresh_setput {prog : Program} {w : World} {A : Around} {E : Value → Shared → Prop} {s : Shared} {env : Env} {Q : Flow → Shared → Prop} (h : Q .next s) : wpAny (model prog w) A (execs [] env) Q E s := by
  w_top off
  first | (walk1; done) | (walk1; exact h) | exact wpAny_execs_nil h
section
/-! a set of ints from 0 to 3: its table, written out -/
abbrev mkEs (l : List (Int × Tok)) : Array (Int × Value) := (l.map fun p => (p.1, Value.int p.1 p.2)).toArray
abbrev mkT (led : Bool) (l : List (Int × Tok)) : SetTable := { mask := 7, place := (l.map fun p => p.1.toNat).toArray, dummies := #[], finger := 0, led := led, moves := 0, plain := true }
def setObjL (led : Bool) (ep : Nat) (l : List (Int × Tok)) : Obj := { cls := .type "set", data := .set (mkEs l) ep (mkT led l) }
structure Sm (l : List (Int × Tok)) : Prop where
  up : l.Pairwise fun p q => p.1 < q.1
  lo : ∀ p ∈ l, 0 ≤ p.1 ∧ p.1 ≤ 3
def ins (k : Int) (t : Tok) : List (Int × Tok) → List (Int × Tok)
  | [] => [(k, t)]
  | (a, u) :: r => if k < a then (k, t) :: (a, u) :: r else if k = a then (a, u) :: r else (a, u) :: ins k t r
theorem ins_mem {k : Int} {t : Tok} {p : Int × Tok} : ∀ {l : List (Int × Tok)}, p ∈ ins k t l → p = (k, t) ∨ p ∈ l
  | [], h => .inl (List.mem_singleton.mp h)
  | (a, u) :: r, h => by
    unfold ins at h
    split at h
    · rcases List.mem_cons.mp h with h | h
      · exact .inl h
      · exact .inr h
    · split at h
      · exact .inr h
      · rcases List.mem_cons.mp h with h | h
        · exact .inr (h ▸ .head _)
        · exact (ins_mem h).imp id (.tail _)
theorem ins_keys {k x : Int} {t : Tok} : ∀ {l : List (Int × Tok)}, x ∈ (ins k t l).map (·.1) ↔ x = k ∨ x ∈ l.map (·.1)
  | [] => by simp [ins]
  | (a, u) :: r => by
    unfold ins
    split
    · simp
    · split
      · rename_i h; subst h; simp
      · simp only [List.map_cons, List.mem_cons, ins_keys (l := r)]
        constructor
        · rintro (h | h | h) <;> simp [h]
        · rintro (h | h | h) <;> simp [h]
theorem Sm.ins {k : Int} {t : Tok} (h0 : 0 ≤ k) (h1 : k ≤ 3) : ∀ {l : List (Int × Tok)}, Sm l → Sm (ins k t l)
  | [], _ => ⟨by simp [Mine.ins], fun p hp => by rw [List.mem_singleton.mp hp]; exact ⟨h0, h1⟩⟩
  | (a, u) :: r, h => by
    have hr : Sm r := ⟨(List.pairwise_cons.mp h.up).2, fun p hp => h.lo p (.tail _ hp)⟩
    have hu := (List.pairwise_cons.mp h.up).1
    unfold Mine.ins
    split
    · rename_i hlt
      refine ⟨List.pairwise_cons.mpr ⟨fun p hp => ?_, h.up⟩, fun p hp => ?_⟩
      · rcases List.mem_cons.mp hp with rfl | hp
        · exact hlt
        · exact Int.lt_trans hlt (hu p hp)
      · rcases List.mem_cons.mp hp with rfl | hp
        · exact ⟨h0, h1⟩
        · exact h.lo p hp
    · split
      · exact h
      · have ih := Sm.ins (t := t) h0 h1 hr
        refine ⟨List.pairwise_cons.mpr ⟨fun p hp => ?_, ih.up⟩, fun p hp => ?_⟩
        · rcases ins_mem hp with rfl | hp
          · show a < k; omega
          · exact hu p hp
        · rcases List.mem_cons.mp hp with rfl | hp
          · exact h.lo _ (.head _)
          · exact ih.lo p hp
theorem Sm.len {l : List (Int × Tok)} (h : Sm l) : l.length ≤ 4 := by
  match l, h with
  | [], _ => simp
  | [_], _ => simp
  | [_, _], _ => simp
  | [_, _, _], _ => simp
  | [_, _, _, _], _ => simp
  | a :: b :: c :: d :: e :: r, h =>
    have h1 := h.up
    simp only [List.pairwise_cons, List.mem_cons, forall_eq_or_imp] at h1
    have ha := h.lo a (by simp)
    have he := h.lo e (by simp)
    omega
theorem small4 {k : Int} (h0 : 0 ≤ k) (h1 : k ≤ 3) : k = 0 ∨ k = 1 ∨ k = 2 ∨ k = 3 := by omega
def LayOk (led : Bool) (l : List (Int × Tok)) (k : Int) (t : Tok) : Prop :=
  layNew (mkT led l) (mkEs l) k (.int k t) = (mkEs (ins k t l), mkT led (ins k t l), false, false)
theorem lay0 (led : Bool) (k : Int) (t : Tok) (hk : k = 0 ∨ k = 1 ∨ k = 2 ∨ k = 3) : LayOk led [] k t := by
  rcases hk with rfl | rfl | rfl | rfl <;> (unfold LayOk; kernel_rfl)
theorem lay1 (led : Bool) (k a : Int) (t u : Tok) (hk : k = 0 ∨ k = 1 ∨ k = 2 ∨ k = 3) (ha : a = 0 ∨ a = 1 ∨ a = 2 ∨ a = 3) (h : k ≠ a) : LayOk led [(a, u)] k t := by
  rcases ha with rfl | rfl | rfl | rfl <;> rcases hk with rfl | rfl | rfl | rfl <;> first | exact absurd rfl h | (unfold LayOk; kernel_rfl)
theorem lay2 (led : Bool) (k a b : Int) (t u v : Tok) (hk : k = 0 ∨ k = 1 ∨ k = 2 ∨ k = 3) (ha : a = 0 ∨ a = 1 ∨ a = 2 ∨ a = 3) (hb : b = 0 ∨ b = 1 ∨ b = 2 ∨ b = 3) (hab : a < b) (h : k ≠ a) (h' : k ≠ b) : LayOk led [(a, u), (b, v)] k t := by
  rcases ha with rfl | rfl | rfl | rfl <;> rcases hb with rfl | rfl | rfl | rfl <;> first | exact absurd hab (by decide) | (rcases hk with rfl | rfl | rfl | rfl <;> first | exact absurd rfl h | exact absurd rfl h' | (unfold LayOk; kernel_rfl))
theorem lay3 (led : Bool) (k a b c : Int) (t u v x : Tok) (hk : k = 0 ∨ k = 1 ∨ k = 2 ∨ k = 3) (ha : a = 0 ∨ a = 1 ∨ a = 2 ∨ a = 3) (hb : b = 0 ∨ b = 1 ∨ b = 2 ∨ b = 3) (hc : c = 0 ∨ c = 1 ∨ c = 2 ∨ c = 3) (hab : a < b) (hbc : b < c) (h : k ≠ a) (h' : k ≠ b) (h'' : k ≠ c) : LayOk led [(a, u), (b, v), (c, x)] k t := by
  rcases ha with rfl | rfl | rfl | rfl <;> rcases hb with rfl | rfl | rfl | rfl <;> first | exact absurd hab (by decide) | (rcases hc with rfl | rfl | rfl | rfl <;> first | exact absurd hbc (by decide) | (rcases hk with rfl | rfl | rfl | rfl <;> first | exact absurd rfl h | exact absurd rfl h' | exact absurd rfl h'' | (unfold LayOk; kernel_rfl)))
theorem lay_ok {l : List (Int × Tok)} (h : Sm l) {k : Int} {t : Tok} {led : Bool} (h0 : 0 ≤ k) (h1 : k ≤ 3) (hn : ∀ p ∈ l, k ≠ p.1) : LayOk led l k t := by
  have hk := small4 h0 h1
  have lo : ∀ p ∈ l, p.1 = 0 ∨ p.1 = 1 ∨ p.1 = 2 ∨ p.1 = 3 := fun p hp => small4 (h.lo p hp).1 (h.lo p hp).2
  have up := h.up
  match l, h, hn, lo, up with
  | [], _, _, _, _ => exact lay0 led k t hk
  | [(a, u)], _, hn, lo, _ => exact lay1 led k a t u hk (lo (a, u) (by simp)) (hn (a, u) (by simp))
  | [(a, u), (b, v)], _, hn, lo, up =>
    simp only [List.pairwise_cons, List.mem_cons, List.not_mem_nil, or_false, forall_eq] at up
    exact lay2 led k a b t u v hk (lo (a, u) (by simp)) (lo (b, v) (by simp)) up.1 (hn (a, u) (by simp)) (hn (b, v) (by simp))
  | [(a, u), (b, v), (c, x)], _, hn, lo, up =>
    simp only [List.pairwise_cons, List.mem_cons, List.not_mem_nil, or_false, forall_eq_or_imp, forall_eq] at up
    exact lay3 led k a b c t u v x hk (lo (a, u) (by simp)) (lo (b, v) (by simp)) (lo (c, x) (by simp)) up.1.1 up.2.1 (hn (a, u) (by simp)) (hn (b, v) (by simp)) (hn (c, x) (by simp))
  | (a, u) :: (b, v) :: (c, x) :: (d, y) :: r, h, hn, lo, up =>
    simp only [List.pairwise_cons, List.mem_cons, forall_eq_or_imp] at up
    have ha := h.lo (a, u) (by simp)
    have hd := h.lo (d, y) (by simp)
    have n1 := hn (a, u) (by simp)
    have n2 := hn (b, v) (by simp)
    have n3 := hn (c, x) (by simp)
    have n4 := hn (d, y) (by simp)
    dsimp only at ha hd n1 n2 n3 n4 up
    omega

end
theorem off_setput : True := by
  k_with "off_setput" => skip
  trivial


theorem fresh_setadd {prog : Program} {w : World} {A : Around} {E : Value → Shared → Prop} {s : Shared} {env : Env} {Q : Flow → Shared → Prop} (h : Q .next s) : wpAny (model prog w) A (execs [] env) Q E s := by
  w_top off
  first | (walk1; done) | (walk1; exact h) | exact wpAny_execs_nil h
section
/-! adding to such a set, and «set» of a list of ints from 0 to 3 -/
theorem ins_old {k : Int} {t : Tok} : ∀ {l : List (Int × Tok)}, l.Pairwise (fun p q => p.1 < q.1) → (∃ p ∈ l, p.1 = k) → ins k t l = l
  | [], _, h => by obtain ⟨p, hp, _⟩ := h; cases hp
  | (a, u) :: r, hu, h => by
    have hr := List.pairwise_cons.mp hu
    unfold ins
    obtain ⟨p, hp, e⟩ := h
    rcases List.mem_cons.mp hp with rfl | hp
    · dsimp only at e; subst e; rw [if_neg (by omega), if_pos rfl]
    · have := hr.1 p hp
      dsimp only at this
      rw [if_neg (by omega), if_neg (by omega), ins_old hr.2 ⟨p, hp, e⟩]
section
variable {prog : Program} {w : World} {A : Around} {E : Value → Shared → Prop} {s : Shared} {S : Addr} {l : List (Int × Tok)} {led : Bool} {ep : Nat} {k : Int} {t : Tok}
theorem hash_small (h0 : 0 ≤ k) (h1 : k ≤ 3) : (intKind prog w).hash k = k := by
  rcases small4 h0 h1 with rfl | rfl | rfl | rfl <;> rfl
theorem sm_elems (hl : Sm l) : ElemsOf (intKind prog w) (mkEs l).toList := fun e he => by
  simp only [List.mem_map] at he
  obtain ⟨p, hp, rfl⟩ := he
  exact ⟨⟨p.1, intKind_is _ _ _ _, (hash_small (hl.lo p hp).1 (hl.lo p hp).2).symm⟩, rfl⟩
theorem sm_fits (hl : Sm l) : (mkT led l).fits (mkEs l).size = true := by
  have := hl.len
  simp only [SetTable.fits, SetTable.fill, List.size_toArray, List.length_map, Array.size_empty, Nat.add_zero, beq_self_eq_true, Bool.true_and, decide_eq_true_eq]
  show l.length + 0 ≤ 7
  omega
theorem sm_size (hl : Sm l) : (mkEs l).size < scanBound := by
  have := hl.len
  have h : scanBound = 4096 := rfl
  rw [h]; simp only [List.size_toArray, List.length_map]; omega
theorem sm_full (hl : Sm l) : (mkT led l).tooFull = false := by
  have := hl.len
  simp only [SetTable.tooFull, SetTable.fill, List.size_toArray, List.length_map, Array.size_empty, decide_eq_false_iff_not]
  show ¬ (l.length + 0) * 5 ≥ 7 * 3
  omega
theorem set_add {Q : Bool → Shared → Prop} (hS : s.heap.get? S = some (setObjL led ep l)) (hl : Sm l) (h0 : 0 ≤ k) (h1 : k ≤ 3)
    (h : ∀ h' ep' b, Heap.SameBut S s.heap h' → h'.get? S = some (setObjL led ep' (ins k t l)) → Q b { s with heap := h' }) :
    wpAny (model prog w) A (setAddHashed S (.int k t) ((intKind prog w).hash k)) Q E s := by
  have hkey : (intKind prog w).is k (.int k t) = true := intKind_is _ _ _ _
  have hel : ElemsOf (intKind prog w) (mkEs l).toList := sm_elems hl
  have hf := sm_fits (led := led) hl
  have hb := sm_size hl
  have hd : (setObjL led ep l).data = .set (mkEs l) ep (mkT led l) := rfl
  unfold setAddHashed setAddHashedIn
  refine wpAny_holding (wpAny_bind (wpAny_setState_of hS hd hf ?_))
  dsimp only
  rw [byScan_of (x := .int k t) rfl hb hel]
  simp only [↓reduceIte]
  unfold setAddByScan
  refine wpAny_bind ?_
  refine wpAny_bind (wpAny_rule ?_)
  refine wpAny_bind (wpAny_setScan_of hkey hS hd hf hel ?_)
  cases hr : List.findIdx? (fun e => (intKind prog w).is k e.2) (mkEs l).toList with
  | some j =>
    dsimp only
    refine wpAny_pure (wpAny_pure ?_)
    have hold : ins k t l = l := by
      obtain ⟨hj, hpj, _⟩ := List.findIdx?_eq_some_iff_getElem.mp hr
      have hm := List.getElem_mem hj
      simp only [List.mem_map] at hm
      obtain ⟨p, hp, e⟩ := hm
      refine ins_old hl.up ⟨p, hp, ?_⟩
      rw [← e] at hpj
      have := KeyKind.is_eq_decide (knd := intKind prog w) (intKind_is prog w p.1 p.2) k
      dsimp only at hpj
      rw [this] at hpj
      exact (of_decide_eq_true hpj).symm
    have e : s = { s with heap := s.heap } := by cases s; rfl
    rw [e]
    exact h s.heap ep false (Heap.SameBut.refl S s.heap) (by rw [hold]; exact hS)
  | none =>
    dsimp only
    have hn : ∀ p ∈ l, k ≠ p.1 := fun p hp e => by
      have := List.findIdx?_eq_none_iff.mp hr (p.1, .int p.1 p.2) (by simp only [List.mem_map]; exact ⟨p, hp, rfl⟩)
      subst e
      rw [intKind_is] at this
      cases this
    have hL : layNew (mkT led l) (mkEs l) ((intKind prog w).hash k) (.int k t) = (mkEs (ins k t l), mkT led (ins k t l), false, false) := by
      rw [hash_small h0 h1]; exact lay_ok hl h0 h1 hn
    rw [hL]
    dsimp only
    have hl2 := hl.ins (t := t) h0 h1
    refine wpAny_bind (wpAny_pure ?_)
    rw [if_pos rfl]
    refine wpAny_bind ?_
    rw [hashByValue_scannable 8 (x := .int k t) rfl]
    refine wpAny_pure ?_
    dsimp only [plainKind]
    rw [if_pos rfl]
    refine wpAny_bind (wpAny_storeSet_of hS hd ?_ (fits_of_scanBound (sm_size hl2)))
    have hg : (s.heap.update S (Obj.putSet (mkEs (ins k t l)) (mkT led (ins k t l)))).get? S = some (setObjL led (ep + 1) (ins k t l)) := by
      have := Heap.get?_update_self (Obj.putSet (mkEs (ins k t l)) (mkT led (ins k t l))) hS (by rw [putSet_of _ _ hd]; rfl)
      rw [putSet_of _ _ hd] at this; exact this
    rw [if_neg (by rw [sm_full hl2]; decide)]
    exact wpAny_pure (wpAny_pure (h _ (ep + 1) true (Heap.SameBut.update s.heap S _) hg))
end

end
theorem off_setadd : True := by
  k_with "off_setadd" => skip
  trivial


theorem fresh_setof {prog : Program} {w : World} {A : Around} {E : Value → Shared → Prop} {s : Shared} {env : Env} {Q : Flow → Shared → Prop} (h : Q .next s) : wpAny (model prog w) A (execs [] env) Q E s := by
  w_top off
  first | (walk1; done) | (walk1; exact h) | exact wpAny_execs_nil h
section
/-! «set» of a list of ints from 0 to 3 -/
def insAll (ps : List (Int × Tok)) : List (Int × Tok) := ps.foldl (fun l p => ins p.1 p.2 l) []
theorem insAll_snoc (ps : List (Int × Tok)) (p : Int × Tok) : insAll (ps ++ [p]) = ins p.1 p.2 (insAll ps) := by unfold insAll; rw [List.foldl_append]; rfl
theorem insAll_sm : ∀ (n : Nat) (ps : List (Int × Tok)), ps.length = n → (∀ p ∈ ps, 0 ≤ p.1 ∧ p.1 ≤ 3) → Sm (insAll ps)
  | 0, ps, e, _ => by rw [List.eq_nil_of_length_eq_zero e]; exact ⟨.nil, fun _ h => nomatch h⟩
  | n + 1, ps, e, h => by
    have hne : ps ≠ [] := fun q => by rw [q] at e; cases e
    rw [← List.dropLast_concat_getLast hne, insAll_snoc]
    have hl := h _ (List.getLast_mem hne)
    exact Sm.ins hl.1 hl.2 (insAll_sm n _ (by rw [List.length_dropLast, e]; rfl) fun p hp => h p (List.dropLast_subset _ hp))
theorem insAll_keys (x : Int) : ∀ (n : Nat) (ps : List (Int × Tok)), ps.length = n → (x ∈ (insAll ps).map (·.1) ↔ x ∈ ps.map (·.1))
  | 0, ps, e => by rw [List.eq_nil_of_length_eq_zero e]; exact Iff.rfl
  | n + 1, ps, e => by
    have hne : ps ≠ [] := fun q => by rw [q] at e; cases e
    have ih := insAll_keys x n ps.dropLast (by rw [List.length_dropLast, e]; rfl)
    have hs : ps = ps.dropLast ++ [ps.getLast hne] := (List.dropLast_concat_getLast hne).symm
    generalize ps.dropLast = qs at ih hs
    generalize ps.getLast hne = q at hs
    subst hs
    rw [insAll_snoc, ins_keys, ih]
    simp only [List.map_append, List.map_cons, List.map_nil, List.mem_append, List.mem_singleton]
    exact Or.comm
theorem pairs_of : ∀ {vs : List Value} {ns : List Int}, IntsAre vs ns → ∃ ps : List (Int × Tok), vs = ps.map (fun p => Value.int p.1 p.2) ∧ ns = ps.map (·.1)
  | _, _, .nil => ⟨[], rfl, rfl⟩
  | _, _, .cons n t h => by
    obtain ⟨ps, a, b⟩ := pairs_of h
    exact ⟨(n, t) :: ps, by rw [a]; rfl, by rw [b]; rfl⟩
section
variable {prog : Program} {w : World} {A : Around} {E : Value → Shared → Prop} {s : Shared} {R : Result → Shared → Prop} {S I l : Addr} {ps : List (Int × Tok)} {led : Bool}
theorem set_loop (hh : A.handled = none) (hr : ∀ p ∈ ps, 0 ≤ p.1 ∧ p.1 ≤ 3) (hIS : I ≠ S) (hlI : l ≠ I) (hlS : l ≠ S) :
    ∀ (k i : Nat) (s : Shared) (ep : Nat), ps.length - i = k → i ≤ ps.length → s.heap.IsListIter I l i → s.heap.IsList l (ps.map fun p => Value.int p.1 p.2).toArray → s.heap.get? S = some (setObjL led ep (insAll (ps.take i))) →
      (∀ h' tk ep', (∀ b o, b ≠ I → b ≠ S → s.heap.get? b = some o → h'.get? b = some o) → h'.get? S = some (setObjL led ep' (insAll ps)) → R (.ok (.ret .none)) { s with heap := h', toks := tk }) →
      codeAny (model prog w) A (.builtin "set.update.loop" ⟨[.ref S, .ref I], []⟩) R s := by
  intro k
  induction k with
  | zero =>
    intro i s ep hk hi hit hl hS hR
    have hin : i = ps.length := by omega
    subst hin
    refine codeAny_builtin PyProof.Rows.F.entry_set_update_loop ?_
    rw [Around.under_plainId PyProof.Rows.F.plain_set_update_loop _]
    show wpAny _ A.in1 (pyNext (.ref I) >>= _) _ _ s
    refine wpAny_bind (wpAny_pyNext_list_end hh hit hl (by simp) fun h' he => ?_)
    show wpAny _ A.in1 (ret Value.none) _ _ _
    rw [List.take_length] at hS
    exact wpAny_pure (hR h' _ ep (fun b o hb _ e => he b o hb e) (he S _ (Ne.symm hIS) hS))
  | succ k ih =>
    intro i s ep hk hi hit hl hS hR
    have hlt : i < ps.length := by omega
    refine codeAny_builtin PyProof.Rows.F.entry_set_update_loop ?_
    rw [Around.under_plainId PyProof.Rows.F.plain_set_update_loop _]
    show wpAny _ A.in1 (pyNext (.ref I) >>= _) _ _ s
    have hp := List.getElem?_eq_getElem hlt
    have hpm := hr _ (List.getElem_mem hlt)
    generalize ps[i] = p at hp hpm
    refine wpAny_bind (wpAny_pyNext_list_item (x := .int p.1 p.2) hit hl (by simp [hp]) fun h' hit' hs => ?_)
    have hS' : h'.get? S = some (setObjL led ep (insAll (ps.take i))) := (hs.2 S (Ne.symm hIS)).trans hS
    show wpAny _ A.in1 (holding [Value.int p.1 p.2] (setAdd S (.int p.1 p.2)) >>= _) _ _ _
    refine wpAny_bind (wpAny_holding ?_)
    unfold setAdd
    refine wpAny_holding ?_
    refine wpAny_bind ((intKind prog w).pyHash (k := p.1) (intKind_is _ _ _ _) ?_)
    refine set_add (s := { heap := h', gens := s.gens, drawn := s.drawn, toks := s.toks + 1, os := s.os }) hS' (insAll_sm _ _ rfl fun q hq => hr q (List.mem_of_mem_take hq)) hpm.1 hpm.2 fun h₂ ep₂ _ hsb hS₂ => ?_
    have hS₃ : h₂.get? S = some (setObjL led ep₂ (insAll (ps.take (i + 1)))) := by rw [List.take_add_one, hp]; rw [Option.toList_some, insAll_snoc]; exact hS₂
    refine wpAny_pure ⟨plainId_quiet PyProof.Rows.F.plain_set_update_loop _, ih (i + 1) _ ep₂ (by omega) hlt ?_ ?_ hS₃ fun h₃ tk₃ ep₃ hk₃ hS₄ => ?_⟩
    · exact hit'.extBut hsb.extBut hIS
    · exact (hl.extBut hs.extBut hlI).extBut hsb.extBut hlS
    · exact hR h₃ tk₃ ep₃ (fun b o hI hbS e => hk₃ b o hI hbS ((hsb.2 b hbS).trans (hs.extBut b o hI e))) hS₄
theorem code_set_newL (a : Value) {Q₁ : Value → Shared → Prop}
    (h : Q₁ (.ref s.heap.objs.size) { s with heap := s.heap.push (setObjL (!w.params.followText "set-order") 0 []) }) :
    codeAny (model prog w) A (.call (.builtin "set.__new__") ⟨[.type "set", a], []⟩) (wants Q₁ E) s := by
  refine codeAny_of_tree ?_
  show wpAny _ A.in1 (do checkBuiltinCall "set.__new__" ⟨[.type "set", a], []⟩; again (.builtin "set.__new__" ⟨[.type "set", a], []⟩)) _ _ s
  refine wpAny_bind (wpAny_of_eq (PySem.F.newCall_set_1 a) (wpAny_pure ⟨plainId_quiet F.plain_set_new _, codeAny_builtin F.entry_set_new ?_⟩))
  rw [Around.under_plainId F.plain_set_new _]
  unfold Builtin.«set.__new__» Builtin.Frozenset.newClass
  have hsub := sub_set_self
  obtain ⟨hp, g, d, tk, os⟩ := s
  dsimp only
  wp_walk
  refine wpAny_askSetting (wpAny_pure ?_)
  dsimp only
  simp only [newObj]
  refine wpAny_bind (wpAny_alloc (wpAny_pure ?_))
  exact wpAny_pure h
set_option maxHeartbeats 3200000 in
theorem call_setL {Q : Value → Shared → Prop} (hh : A.handled = none) (hl : s.heap.IsList l (ps.map fun p => Value.int p.1 p.2).toArray) (hr : ∀ p ∈ ps, 0 ≤ p.1 ∧ p.1 ≤ 3)
    (h : ∀ (h' : Heap) (tk ep : Nat), h'.get? s.heap.objs.size = some (setObjL (!w.params.followText "set-order") ep (insAll ps)) →
      (∀ b o, s.heap.get? b = some o → h'.get? b = some o) → Q (.ref s.heap.objs.size) { s with heap := h', toks := tk }) :
    wpAny (model prog w) A (call (.type "set") [.ref l]) Q E s := by
  obtain ⟨c, tl, hmro⟩ := F.called_set.mro
  have hmade := F.called_set.made
  have hsub := F.called_set.sub
  refine wpAny_call (codeAny_of_tree ?_)
  show wpAny _ _ (callAny (.type "set") _) _ _ _
  refine wpAny_pure ⟨Code.quiet_builtin _ (by decide +kernel), codeAny_builtin F.entry_type_call ?_⟩
  rw [Around.under_plain (weight_type_call_type "set" [.ref l] []) rfl]
  have h1 := F.called_set.notType
  have h2 := F.called_set.canCreate
  have hct := PySem.F.typeCall_set_1 (.ref l)
  repeat (any_goals (first | assumption | wp_step))
  refine codeAny_mono (code_set_newL (.ref l) (E := E) (Q₁ := fun obj s₁ => obj = .ref s.heap.objs.size ∧ s₁ = { s with heap := s.heap.push (setObjL (!w.params.followText "set-order") 0 []) }) ⟨rfl, rfl⟩) fun r s₁ hr₁ => ?_
  cases r with
  | error e => exact hr₁
  | ok fl =>
    cases fl with
    | ret obj =>
      obtain ⟨rfl, rfl⟩ := hr₁
      have hS : (s.heap.push (setObjL (!w.params.followText "set-order") 0 [])).get? s.heap.objs.size = some (setObjL (!w.params.followText "set-order") 0 []) := Heap.get?_push_size _ rfl
      have hT : Shared.TypeIs { s with heap := s.heap.push (setObjL (!w.params.followText "set-order") 0 []) } (.ref s.heap.objs.size) "set" := ⟨_, hS, rfl⟩
      have hli := F.called_set.init.lookup
      have hbi := F.called_set.init.bind (.ref s.heap.objs.size)
      repeat (any_goals (first | assumption | wp_step))
      refine codeAny_mono (codeAny_call_builtin (R := wants (fun r s₂ => r = .none ∧ ∃ h' tk ep, s₂ = { s with heap := h', toks := tk } ∧
          h'.get? s.heap.objs.size = some (setObjL (!w.params.followText "set-order") ep (insAll ps)) ∧ (∀ b o, s.heap.get? b = some o → h'.get? b = some o)) E) F.called_set.init.plain F.entry_set_init (check_set_init_1 hT ?_)) fun r₂ s₂ hr₂ => ?_
      · have hlt : l < s.heap.objs.size := by obtain ⟨_, e, _⟩ := hl; exact Heap.lt_size e
        obtain ⟨ol, hol, hcl, nl, hdl⟩ := hl
        obtain ⟨ocls, odict, odata, oslots⟩ := ol
        simp only at hcl hdl
        subst hcl; subst hdl
        have hol' : (s.heap.push (setObjL (!w.params.followText "set-order") 0 [])).get? l = some { cls := .type "list", dict := odict, data := .seq (ps.map fun p => Value.int p.1 p.2).toArray nl, slots := oslots } := Heap.get?_push_of_some _ hol
        have hsls := PySem.F.sub_list_set
        have hslf := PySem.F.sub_list_frozenset
        have hne : (Value.type "list" == Value.type "dict") = false := by decide
        have hl1 : (s.heap.push (setObjL (!w.params.followText "set-order") 0 [])).IsList l (ps.map fun p => Value.int p.1 p.2).toArray := ⟨_, hol', rfl, nl, rfl⟩
        unfold Builtin.«set.__init__» noKeywords Builtin.Frozenset.updateFrom
        generalize hPI : pyIter = PI
        wp_walk
        subst hPI
        refine wpAny_pyIter_list hl1 ?_
        refine wpAny_bind (wpAny_runValue ?_)
        have hsz : (s.heap.push (setObjL (!w.params.followText "set-order") 0 [])).objs.size = s.heap.objs.size + 1 := Heap.size_push ..
        refine set_loop (ps := ps) (l := l) (led := !w.params.followText "set-order") (by simp [hh]) hr (by rw [hsz]; exact Nat.ne_of_gt (Nat.lt_succ_self _)) (by rw [hsz]; exact Nat.ne_of_lt (Nat.lt_succ_of_lt hlt)) (Nat.ne_of_lt hlt)
          ps.length 0 _ 0 (by omega) (Nat.zero_le _) ⟨_, Heap.get?_push_size _ rfl, rfl, rfl⟩ (hl1.push _) (Heap.get?_push_of_some _ hS) fun h' tk ep' hk hS' => ?_
        show wpAny _ _ _ _ _ _
        refine wpAny_pure ?_
        show wpAny _ _ (ret Value.none) _ _ _
        refine wpAny_pure ⟨rfl, h', tk, ep', rfl, hS', fun b o e => ?_⟩
        have hb := Heap.lt_size e
        exact hk b o (by rw [hsz]; exact Nat.ne_of_lt (Nat.lt_succ_of_lt hb)) (Nat.ne_of_lt hb) (Heap.get?_push_of_some _ (Heap.get?_push_of_some _ e))
      · cases r₂ with
        | error e => exact hr₂
        | ok fl₂ =>
          cases fl₂ with
          | ret r =>
            obtain ⟨rfl, h', tk, ep, rfl, hS', hk'⟩ := hr₂
            repeat (any_goals (first | assumption | wp_step))
            exact h _ _ _ hS' hk'
          | _ => exact hr₂.elim
    | _ => exact hr₁.elim
end

end
theorem off_setof : True := by
  k_with "off_setof" => skip
  trivial


theorem fresh_setit {prog : Program} {w : World} {A : Around} {E : Value → Shared → Prop} {s : Shared} {env : Env} {Q : Flow → Shared → Prop} (h : Q .next s) : wpAny (model prog w) A (execs [] env) Q E s := by
  w_top off
  first | (walk1; done) | (walk1; exact h) | exact wpAny_execs_nil h
section
/-! iterating such a set -/
theorem slot_setit_next : Slot "set_iterator" "__next__" "set_iterator.__next__" :=
  .of (owner := "set_iterator") (n := "__next__") (by rw [typeLookup_type, builtinLookup_eq_fast]; kernel_rfl) (by decide +kernel) (by decide +kernel) (by decide +kernel)
    (by first | exact .inl (by decide +kernel) | exact .inr (by decide +kernel)) (by rw [isSubtype_type]; kernel_rfl)
theorem entry_setit_next : entryFor table "set_iterator.__next__" = some Builtin.«set_iterator.__next__» := entryFor_of_tree (by kernel_rfl)
theorem args_setit_next (a : Value) : argsOk "set_iterator.__next__" ⟨[a], []⟩ := by unfold argsOk; kernel_rfl
theorem entry_set_iterL : entryFor table "set.__iter__" = some Builtin.«frozenset.__iter__» :=
  entryFor_alias (id' := "frozenset.__iter__") (by rw [fastTable_eq_tree]; kernel_rfl) rfl (by decide +kernel) (by rw [fastTable_eq_tree]; kernel_rfl)
theorem slot_setit_iter : Slot "set_iterator" "__iter__" "set_iterator.__iter__" :=
  .of (owner := "set_iterator") (n := "__iter__") (by rw [typeLookup_type, builtinLookup_eq_fast]; kernel_rfl) (by decide +kernel) (by decide +kernel) (by decide +kernel)
    (by first | exact .inl (by decide +kernel) | exact .inr (by decide +kernel)) (by rw [isSubtype_type]; kernel_rfl)
theorem entry_setit_iter : entryFor table "set_iterator.__iter__" = some Builtin.«dict_keyiterator.__iter__» :=
  entryFor_alias (id' := "dict_keyiterator.__iter__") (by rw [fastTable_eq_tree]; kernel_rfl) rfl (by decide +kernel) (by rw [fastTable_eq_tree]; kernel_rfl)
theorem args_setit_iter (a : Value) : argsOk "set_iterator.__iter__" ⟨[a], []⟩ := by unfold argsOk; kernel_rfl
def itObj (slot j : Nat) (S : Addr) (n ep : Nat) : Obj := { cls := .type "set_iterator", data := .fields #[.int slot 0, .int j 0, .ref S, .int n 0, .int ep 0] }
def placeAt (l : List (Int × Tok)) (j : Nat) : Nat := if j = 0 then 0 else (l.map fun p => p.1.toNat).getD (j - 1) 0 + 1
def slotAt (bt : Bool) (l : List (Int × Tok)) (j : Nat) : Nat := if bt then 0 else placeAt l j
def orderL (w : World) (S : Addr) (ep : Nat) (l : List (Int × Tok)) : Array (Int × Value) := if w.params.followText "set-order" then pickOrder (w.params.setOrder S ep) (mkEs l) else mkEs l
def BelOk (l : List (Int × Tok)) (j : Nat) : Prop := SetTable.below (l.map fun p => p.1.toNat).toArray (placeAt l j) = j
theorem bel1 (a : Int) (u : Tok) (ha : a = 0 ∨ a = 1 ∨ a = 2 ∨ a = 3) (j : Nat) (hj : j ≤ 1) : BelOk [(a, u)] j := by
  have : j = 0 ∨ j = 1 := by omega
  rcases ha with rfl | rfl | rfl | rfl <;> rcases this with rfl | rfl <;> (unfold BelOk; kernel_rfl)
theorem bel2 (a b : Int) (u v : Tok) (ha : a = 0 ∨ a = 1 ∨ a = 2 ∨ a = 3) (hb : b = 0 ∨ b = 1 ∨ b = 2 ∨ b = 3) (hab : a < b) (j : Nat) (hj : j ≤ 2) : BelOk [(a, u), (b, v)] j := by
  have : j = 0 ∨ j = 1 ∨ j = 2 := by omega
  rcases ha with rfl | rfl | rfl | rfl <;> rcases hb with rfl | rfl | rfl | rfl <;> first | exact absurd hab (by decide) | (rcases this with rfl | rfl | rfl <;> (unfold BelOk; kernel_rfl))
theorem bel3 (a b c : Int) (u v x : Tok) (ha : a = 0 ∨ a = 1 ∨ a = 2 ∨ a = 3) (hb : b = 0 ∨ b = 1 ∨ b = 2 ∨ b = 3) (hc : c = 0 ∨ c = 1 ∨ c = 2 ∨ c = 3) (hab : a < b) (hbc : b < c) (j : Nat) (hj : j ≤ 3) : BelOk [(a, u), (b, v), (c, x)] j := by
  have : j = 0 ∨ j = 1 ∨ j = 2 ∨ j = 3 := by omega
  rcases ha with rfl | rfl | rfl | rfl <;> rcases hb with rfl | rfl | rfl | rfl <;> first | exact absurd hab (by decide) | (rcases hc with rfl | rfl | rfl | rfl <;> first | exact absurd hbc (by decide) | (rcases this with rfl | rfl | rfl | rfl <;> (unfold BelOk; kernel_rfl)))
theorem bel4 (u v x y : Tok) (j : Nat) (hj : j ≤ 4) : BelOk [(0, u), (1, v), (2, x), (3, y)] j := by
  have : j = 0 ∨ j = 1 ∨ j = 2 ∨ j = 3 ∨ j = 4 := by omega
  rcases this with rfl | rfl | rfl | rfl | rfl <;> (unfold BelOk; kernel_rfl)
theorem bel_ok {l : List (Int × Tok)} (h : Sm l) {j : Nat} (hj : j ≤ l.length) : BelOk l j := by
  have lo : ∀ p ∈ l, p.1 = 0 ∨ p.1 = 1 ∨ p.1 = 2 ∨ p.1 = 3 := fun p hp => small4 (h.lo p hp).1 (h.lo p hp).2
  have up := h.up
  match l, h, hj, lo, up with
  | [], _, hj, _, _ => obtain rfl : j = 0 := by simpa using hj
                       unfold BelOk; kernel_rfl
  | [(a, u)], _, hj, lo, _ => exact bel1 a u (lo (a, u) (by simp)) j hj
  | [(a, u), (b, v)], _, hj, lo, up =>
    simp only [List.pairwise_cons, List.mem_cons, List.not_mem_nil, or_false, forall_eq] at up
    exact bel2 a b u v (lo (a, u) (by simp)) (lo (b, v) (by simp)) up.1 j hj
  | [(a, u), (b, v), (c, x)], _, hj, lo, up =>
    simp only [List.pairwise_cons, List.mem_cons, List.not_mem_nil, or_false, forall_eq_or_imp, forall_eq] at up
    exact bel3 a b c u v x (lo (a, u) (by simp)) (lo (b, v) (by simp)) (lo (c, x) (by simp)) up.1.1 up.2.1 j hj
  | [(a, u), (b, v), (c, x), (d, y)], h, hj, _, up =>
    simp only [List.pairwise_cons, List.mem_cons, List.not_mem_nil, or_false, forall_eq_or_imp, forall_eq] at up
    have ha := h.lo (a, u) (by simp)
    have hd := h.lo (d, y) (by simp)
    dsimp only at ha hd up
    obtain rfl : a = 0 := by omega
    obtain rfl : b = 1 := by omega
    obtain rfl : c = 2 := by omega
    obtain rfl : d = 3 := by omega
    exact bel4 u v x y j hj
  | (a, u) :: (b, v) :: (c, x) :: (d, y) :: (e, z) :: r, h, _, _, _ => exact absurd h.len (by simp)
theorem erase_perm {α : Type} : ∀ (l : List α) (i : Nat) (h : i < l.length), (l[i] :: l.eraseIdx i).Perm l
  | [], _, h => absurd h (Nat.not_lt_zero _)
  | a :: r, 0, _ => .refl _
  | a :: r, i + 1, h => by
    have h' : i < r.length := Nat.lt_of_succ_lt_succ h
    exact (List.Perm.swap a r[i] (r.eraseIdx i)).trans (List.Perm.cons a (erase_perm r i h'))
theorem pickGo_perm {α : Type} (next : Nat → Nat) : ∀ (fuel k : Nat) (left : List α) (out : Array α), fuel = left.length → (pickOrder.go next fuel k left out).toList.Perm (out.toList ++ left)
  | 0, k, left, out, h => by
    obtain rfl := List.eq_nil_of_length_eq_zero h.symm
    unfold pickOrder.go; simp
  | fuel + 1, k, left, out, h => by
    unfold pickOrder.go
    have hlt : next k % left.length < left.length := Nat.mod_lt _ (by omega)
    rw [List.getElem?_eq_getElem hlt]
    dsimp only
    refine (pickGo_perm next fuel (k + 1) _ _ (by rw [List.length_eraseIdx_of_lt hlt]; omega)).trans ?_
    rw [Array.toList_push, List.append_assoc]
    refine List.Perm.append_left _ ?_
    rw [List.singleton_append]
    exact erase_perm left _ hlt
theorem orderL_perm (w : World) (S : Addr) (ep : Nat) (l : List (Int × Tok)) : (orderL w S ep l).toList.Perm (mkEs l).toList := by
  unfold orderL
  split
  · unfold pickOrder
    have := pickGo_perm (w.params.setOrder S ep) (mkEs l).size 0 (mkEs l).toList #[] (by simp)
    simpa using this
  · exact .refl _
section
variable {prog : Program} {w : World} {A : Around} {E : Value → Shared → Prop} {s : Shared} {S I : Addr} {l : List (Int × Tok)} {ep : Nat}
abbrev ledL (w : World) : Bool := !w.params.followText "set-order"
theorem byText_of {Q : Bool → Shared → Prop} (h : Q (w.params.followText "set-order") s) : wpAny (model prog w) A setsByText Q E s := by
  unfold setsByText
  exact wpAny_bind (wpAny_askSetting (wpAny_pure h))
theorem setNext_of {j : Nat} {Q : Option (Value × Nat) → Shared → Prop} (hS : s.heap.get? S = some (setObjL (ledL w) ep l)) (hl : Sm l) (hj : j ≤ l.length)
    (h : Q (((orderL w S ep l)[j]?).map fun e => (e.2, slotAt (w.params.followText "set-order") l (j + 1))) s) :
    wpAny (model prog w) A (setNext S (slotAt (w.params.followText "set-order") l j) j ep) Q E s := by
  have hf := sm_fits (led := ledL w) hl
  unfold setNext
  refine wpAny_bind (wpAny_setState_of hS rfl hf ?_)
  dsimp only
  refine wpAny_bind (byText_of ?_)
  unfold orderL slotAt at *
  cases hb : w.params.followText "set-order" with
  | true =>
    rw [hb] at h
    simp only [if_true] at h ⊢
    rw [if_neg (by simp)]
    refine wpAny_bind (m := setWalk S) ?_
    unfold setWalk
    refine wpAny_bind (wpAny_setState_of hS rfl hf ?_)
    dsimp only
    refine wpAny_bind (byText_of ?_)
    rw [hb]
    simp only [if_true]
    exact wpAny_bind (wpAny_askSetting (wpAny_pure (wpAny_pure h)))
  | false =>
    rw [hb] at h
    simp only [Bool.false_eq_true, if_false] at h ⊢
    have hled : ledL w = true := by simp [ledL, hb]
    rw [hled]
    refine bm_if_false rfl ?_
    refine wpAny_bind (wpAny_of_eq (a := ()) rfl ?_)
    rw [show SetTable.below (List.map (fun p => p.fst.toNat) l).toArray (placeAt l j) = j from bel_ok hl hj]
    refine wpAny_pure ?_
    have h1 : (mkEs l)[j]? = l[j]?.map fun p => (p.1, Value.int p.1 p.2) := by simp
    have h2 : (List.map (fun p : Int × Tok => p.1.toNat) l).toArray[j]? = l[j]?.map fun p => p.1.toNat := by simp
    rw [h1] at h
    rw [h1, h2]
    cases hq : l[j]? with
    | none => rw [hq] at h; exact h
    | some p =>
      rw [hq] at h
      have hp : placeAt l (j + 1) = p.1.toNat + 1 := by simp [placeAt, hq]
      rw [hp] at h
      exact h
theorem set_pyIter {Q : Value → Shared → Prop} (hS : s.heap.get? S = some (setObjL (ledL w) ep l)) (hl : Sm l)
    (h : Q (.ref s.heap.objs.size) { s with heap := s.heap.push (itObj (slotAt (w.params.followText "set-order") l 0) 0 S l.length ep) }) : wpAny (model prog w) A (pyIter (.ref S)) Q E s := by
  have hT : s.TypeIs (.ref S) "set" := ⟨_, hS, rfl⟩
  have hf := sm_fits (led := ledL w) hl
  refine wpAny_pyIter_slot hT PySem.F.slot_set_iter (wpAny_call_entry PySem.F.slot_set_iter hT entry_set_iterL ?_ (PySem.F.args_set_iter_1 _))
  unfold Builtin.«frozenset.__iter__»
  refine wpAny_bind (m := Builtin.Frozenset.slot0 "__iter__" _) (wpAny_of_eq (a := S) rfl ?_)
  refine wpAny_bind (m := Builtin.Frozenset.sizeOf S) (wpAny_bind (m := setEntries S) (wpAny_bind (wpAny_setState_of hS rfl hf (wpAny_pure (wpAny_pure ?_)))))
  refine wpAny_bind (m := setDrawn S) ?_
  unfold setDrawn
  refine wpAny_bind (wpAny_setState_of hS rfl hf ?_)
  dsimp only
  refine wpAny_bind (byText_of ?_)
  refine wpAny_pure ?_
  refine bm_if_false (by cases w.params.followText "set-order" <;> rfl) ?_
  refine wpAny_bind (wpAny_pure ?_)
  refine wpAny_bind (wpAny_setEpoch_of hS rfl hf ?_)
  have e0 : slotAt (w.params.followText "set-order") l 0 = 0 := by unfold slotAt placeAt; split <;> rfl
  rw [e0] at h
  have hn : (mkEs l).size = l.length := by simp
  rw [hn]
  exact wpAny_bind (wpAny_newObj_type (wpAny_pure ⟨_, rfl, "set_iterator", _, ⟨_, Heap.get?_push_size _ rfl, rfl⟩, slot_setit_next.lookup, h⟩))
theorem set_next_item {j : Nat} {x : Int × Value} {Q : Option Value → Shared → Prop} (hS : s.heap.get? S = some (setObjL (ledL w) ep l)) (hl : Sm l)
    (hI : s.heap.get? I = some (itObj (slotAt (w.params.followText "set-order") l j) j S l.length ep)) (hj : j ≤ l.length) (hx : (orderL w S ep l)[j]? = some x)
    (hQ : ∀ h', h'.get? I = some (itObj (slotAt (w.params.followText "set-order") l (j + 1)) (j + 1) S l.length ep) → Heap.SameBut I s.heap h' → Q (some x.2) { s with heap := h' }) :
    wpAny (model prog w) A (pyNext (.ref I)) Q E s := by
  have hT : s.TypeIs (.ref I) "set_iterator" := ⟨_, hI, rfl⟩
  have hf := sm_fits (led := ledL w) hl
  unfold pyNext
  refine wpAny_bind (wpAny_attempt (wpAny_callSpecial?_slot (name := Str.ofString "__next__") hT slot_setit_next (wpAny_call_entry slot_setit_next hT entry_setit_next ?_ (args_setit_next _))))
  unfold Builtin.«set_iterator.__next__»
  refine wpAny_bind (wpAny_of_eq (a := (Value.ref I, [])) rfl ?_)
  dsimp only
  refine wpAny_bind (wpAny_fieldsOf hI rfl ?_)
  dsimp only
  refine wpAny_bind (m := setEntries S) (wpAny_bind (wpAny_setState_of hS rfl hf (wpAny_pure ?_)))
  have hn : ((mkEs l).size : Int) = (l.length : Int) := by simp
  dsimp only
  rw [hn, if_neg (by simp)]
  refine wpAny_bind (setNext_of (j := j) (ep := ep) hS hl hj ?_)
  rw [hx]
  dsimp only [Option.map_some]
  refine wpAny_bind (wpAny_setField hI rfl (by show 0 < 5; decide) ?_)
  have h1 : (s.heap.update I (Obj.mapFields fun vs => vs.setIfInBounds 0 (rawInt (slotAt (w.params.followText "set-order") l (j + 1) : Nat)))).get? I = some (itObj (slotAt (w.params.followText "set-order") l (j + 1)) j S l.length ep) := Heap.get?_update_self _ hI rfl
  refine wpAny_bind (wpAny_setField h1 rfl (by show 1 < 5; decide) ?_)
  have h2 := Heap.get?_update_self (Obj.mapFields fun vs => vs.setIfInBounds 1 (rawInt ((j : Int) + 1))) h1 rfl
  refine wpAny_pure ⟨_, rfl, wpAny_pure (hQ _ h2 ((Heap.SameBut.update ..).trans (Heap.SameBut.update ..)))⟩
theorem set_next_end {Q : Option Value → Shared → Prop} (hh : A.handled = none) (hS : s.heap.get? S = some (setObjL (ledL w) ep l)) (hl : Sm l)
    (hI : s.heap.get? I = some (itObj (slotAt (w.params.followText "set-order") l l.length) l.length S l.length ep))
    (hQ : ∀ h', (∀ b o, b ≠ I → s.heap.get? b = some o → h'.get? b = some o) → Q none { s with heap := h' }) :
    wpAny (model prog w) A (pyNext (.ref I)) Q E s := by
  have hT : s.TypeIs (.ref I) "set_iterator" := ⟨_, hI, rfl⟩
  have hf := sm_fits (led := ledL w) hl
  unfold pyNext
  refine wpAny_bind (wpAny_attempt (wpAny_callSpecial?_slot (name := Str.ofString "__next__") hT slot_setit_next (wpAny_call_entry slot_setit_next hT entry_setit_next ?_ (args_setit_next _))))
  unfold Builtin.«set_iterator.__next__»
  refine wpAny_bind (wpAny_of_eq (a := (Value.ref I, [])) rfl ?_)
  dsimp only
  refine wpAny_bind (wpAny_fieldsOf hI rfl ?_)
  dsimp only
  refine wpAny_bind (m := setEntries S) (wpAny_bind (wpAny_setState_of hS rfl hf (wpAny_pure ?_)))
  have hn : ((mkEs l).size : Int) = (l.length : Int) := by simp
  dsimp only
  rw [hn, if_neg (by simp)]
  have hx : (orderL w S ep l)[l.length]? = none := by
    have hp := (orderL_perm w S ep l).length_eq
    rw [Array.length_toList] at hp
    exact Array.getElem?_eq_none (by rw [hp]; simp)
  refine wpAny_bind (setNext_of (j := l.length) (ep := ep) hS hl (Nat.le_refl _) ?_)
  rw [hx]
  dsimp only [Option.map_none]
  refine wpAny_bind (wpAny_setField hI rfl (by show 2 < 5; decide) ?_)
  refine wpAny_bind ?_
  simp only [newExc, newTuple]
  refine wpAny_bind (wpAny_newObj_type ?_ (by size_fits))
  refine wpAny_bind (m := firstArgMember _ _) (wpAny_of_eq (a := Value.none) (by first | rfl | (simp only [firstArgMember]; rfl)) ?_)
  refine wpAny_newObj_type ?_ (by size_fits)
  simp only [raiseNew]
  refine wpAny_bind (wpAny_handled ?_)
  rw [show A.in1.handled = none from hh]
  refine wpAny_bind (wpAny_pure (wpAny_throw ?_))
  refine wpAny_bind (wpAny_isInstance (T := "StopIteration") (b := true) ⟨_, Heap.get?_push_size _ rfl, rfl⟩ isSubtype_stop ?_)
  exact wpAny_pure (hQ _ (((Heap.SameBut.update ..).extBut.push _).push _))
end
section
variable {prog : Program} {w : World} {A : Around} {E : Value → Shared → Prop} {s : Shared} {S I : Addr} {l : List (Int × Tok)} {ep : Nat}
theorem set_walks (hh : A.handled = none) (I S : Addr) (hne : S ≠ I) (hl : Sm l) :
    Walks prog w A I [I, S] [I] l.length (fun i v => ∃ x, (orderL w S ep l)[i]? = some x ∧ v = x.2)
      (fun i h => h.get? I = some (itObj (slotAt (w.params.followText "set-order") l i) i S l.length ep) ∧ h.get? S = some (setObjL (ledL w) ep l)) where
  sub := fun b hb => by simp at hb; simp [hb]
  frame := fun _ _ _ st hk => ⟨hk I (by simp) _ st.1, hk S (by simp) _ st.2⟩
  item := fun i s Q E hi st hQ => by
    have hlt : i < (orderL w S ep l).size := by
      have hp := (orderL_perm w S ep l).length_eq
      rw [Array.length_toList] at hp
      rw [hp]; simpa using hi
    have hx := Array.getElem?_eq_getElem hlt
    generalize (orderL w S ep l)[i] = x at hx
    exact set_next_item st.2 hl st.1 (Nat.le_of_lt hi) hx fun h' h1 h2 => hQ x.2 h' s.toks ⟨x, hx, rfl⟩ ⟨h1, (h2.2 S hne).trans st.2⟩ fun b o hb e => h2.extBut b o (fun q => hb (by simp [q])) e
  done := fun s Q E st hQ => set_next_end hh st.2 hl st.1 fun h' hk => hQ h' s.toks fun b o hb e => hk b o (fun q => hb (by simp [q])) e
  self := fun i s Q E st hQ => by
    have hT : s.TypeIs (.ref I) "set_iterator" := ⟨_, st.1, rfl⟩
    refine wpAny_pyIter_slot hT slot_setit_iter (wpAny_call_entry slot_setit_iter hT entry_setit_iter ?_ (args_setit_iter _))
    show wpAny _ _ (ret (.ref I)) _ _ s
    exact wpAny_pure ⟨_, rfl, "set_iterator", _, hT, slot_setit_next.lookup, hQ⟩
theorem hint_set (hT : s.TypeIs (.ref S) "set") {Q : Bool → Shared → Prop} (h : Q false s) : wpAny (model prog w) A (Builtin.List.listLengthHint (.ref S)) Q E s := by
  unfold Builtin.List.listLengthHint
  refine wpAny_bind (wpAny_specialOf hT PySem.F.slot_set_len.lookup ?_)
  generalize hid : ("set.__len__" : String) = id0
  wp_delta
  rw [show splitId id0 = some ("set", "__len__") from by subst hid; decide +kernel]
  subst hid
  refine wpAny_bind (wpAny_isInstance (T := "set") (b := true) hT (by rw [isSubtype_type]; kernel_rfl) ?_)
  refine wpAny_ite_split (fun hab => absurd hab (by decide)) (fun _ => ?_)
  refine wpAny_ite_split (fun _ => ?_) (fun hab => absurd (by decide +kernel) hab)
  refine wpAny_bind (wpAny_typeOf hT ?_)
  exact wpAny_pure h
theorem set_src (hl : Sm l) : KdlSrc prog w "set" S S l.length (fun i v => ∃ x, (orderL w S ep l)[i]? = some x ∧ v = x.2) (fun h => h.get? S = some (setObjL (ledL w) ep l)) where
  type := fun _ hm => ⟨_, hm, rfl⟩
  there := fun _ hm => ⟨Heap.lt_size hm, Heap.lt_size hm⟩
  keep := fun _ _ hm hk => hk S (.inl rfl) _ hm
  notList := by decide
  notTuple := by decide
  hint := fun _ _ _ _ hm hq => hint_set ⟨_, hm, rfl⟩ hq
  iter := fun _ s hh hm => ⟨_, _, (fun _ _ hq => set_pyIter hm hl hq), set_walks hh _ S (Nat.ne_of_lt (Heap.lt_size hm)) hl, ⟨Heap.get?_push_size _ rfl, Heap.get?_push_of_some _ hm⟩⟩
end
theorem sorted_unique : ∀ {a b : List Int}, a.Perm b → a.Pairwise (· ≤ ·) → b.Pairwise (· ≤ ·) → a = b
  | [], b, p, _, _ => (List.nil_perm.mp p).symm
  | x :: a, [], p, _, _ => by have := p.length_eq; simp at this
  | x :: a, y :: b, p, ha, hb => by
    have hx := List.pairwise_cons.mp ha
    have hy := List.pairwise_cons.mp hb
    have h1 : y ≤ x := by
      rcases List.mem_cons.mp (p.mem_iff.mp (List.mem_cons_self ..)) with e | e
      · exact Int.le_of_eq e.symm
      · exact hy.1 x e
    have h2 : x ≤ y := by
      rcases List.mem_cons.mp (p.mem_iff.mpr (List.mem_cons_self ..)) with e | e
      · exact Int.le_of_eq e.symm
      · exact hx.1 y e
    obtain rfl := Int.le_antisymm h2 h1
    rw [sorted_unique (List.Perm.cons_inv p) hx.2 hy.2]
theorem ints_of : ∀ (ps : List (Int × Value)) (vs : List Value), vs = ps.map (·.2) → (∀ p ∈ ps, ∃ t, p.2 = .int p.1 t) → IntsAre vs (ps.map (·.1))
  | [], _, e, _ => by subst e; exact .nil
  | p :: r, _, e, h => by
    subst e
    obtain ⟨t, ht⟩ := h p (.head _)
    show IntsAre (p.2 :: r.map (·.2)) (p.1 :: r.map (·.1))
    rw [ht]
    exact .cons _ _ (ints_of r _ rfl fun q hq => h q (.tail _ hq))
section
variable {prog : Program} {w : World} {A : Around} {E : Value → Shared → Prop} {s : Shared} {S : Addr} {l : List (Int × Tok)} {ep : Nat} {h₀ : Heap} {L : Addr} {m : Str → Option Value} {news : List (Addr × Obj)}
theorem sorted_setL {Q : Value → Shared → Prop} (hh : A.handled = none) (F : Fr h₀ L s.heap m) (N : News h₀ L s.heap news) (hS : s.heap.get? S = some (setObjL (ledL w) ep l)) (hl : Sm l)
    (h : ∀ D vs' c h' tk, Fr h₀ L h' m → News h₀ L h' ((D, listOf (List.toArray vs') c) :: news) → (∀ q ∈ news, q.1 < D) → IntsAre vs' (l.map (·.1)) → Q (.ref D) { s with heap := h', toks := tk }) :
    wpAny (model prog w) A (call (.builtin "sorted") [.ref S]) Q E s := by
  have hlen := hl.len
  refine kdu_sorted (set_src (ep := ep) hl) hh F N hS (by rw [sizeLine_eq]; omega) fun D h' tk vs F' N' l1 hn hv => ?_
  have ho : h'.get? D = some (seqObj "list" vs.toArray 0) := (N' _ (.head _)).1
  have hp := orderL_perm w S ep l
  have hvs : vs = (orderL w S ep l).toList.map (·.2) := by
    apply List.ext_getElem?
    intro i
    rw [List.getElem?_map, Array.getElem?_toList (xs := orderL w S ep l)]
    by_cases hi : i < vs.length
    · obtain ⟨x, hx, e⟩ := hv i _ (List.getElem?_eq_getElem hi)
      rw [hx, List.getElem?_eq_getElem hi, e]; rfl
    · have h1 : (orderL w S ep l)[i]? = none := by
        have := hp.length_eq
        rw [Array.length_toList] at this
        exact Array.getElem?_eq_none (by rw [this]; simp; omega)
      rw [h1, List.getElem?_eq_none (by omega)]; rfl
  have hI : IntsAre vs ((orderL w S ep l).toList.map (·.1)) := ints_of _ _ hvs fun p hp' => by
    have := hp.mem_iff.mp hp'
    simp only [List.mem_map] at this
    obtain ⟨q, _, rfl⟩ := this
    exact ⟨_, rfl⟩
  have hpl : ((orderL w S ep l).toList.map (·.1)).Perm (l.map (·.1)) := by
    have e1 : (mkEs l).toList.map (·.1) = l.map (·.1) := by simp [Function.comp_def]
    rw [← e1]; exact hp.map _
  refine wpAny_call_entry PyProof.Rows.slot_list_sort ⟨_, ho, rfl⟩ PyProof.Rows.entry_list_sort (list_sort_tree (s := { s with heap := h', toks := tk }) ho hI (by omega) fun out ns' a1 a2 a3 => ⟨_, rfl, ?_⟩) (args_list_sort _)
  obtain ⟨e, he⟩ := sortedHeap_at (vs := vs) (out := out) ho
  have hns : ns' = l.map (·.1) := sorted_unique (a2.trans hpl) a3 (List.pairwise_map.mpr (hl.up.imp fun q => Int.le_of_lt q))
  have keep : ∀ b o, b ≠ D → h'.get? b = some o → (sortedHeap h' D vs out).get? b = some o := fun b o hb q => (sortedHeap_old hb (Heap.lt_size q)).trans q
  have hz := N' _ (.head _)
  have Fx := exc_upd F' N' (fun p hp => Nat.ne_of_lt (l1 p hp)) keep (he.trans (by rw [← Array.toArray_toList (xs := out)]))
  exact h D out.toList e _ tk Fx.1 Fx.2 l1 (hns ▸ a1)
end

end
theorem off_setit : True := by
  k_with "off_setit" => skip
  trivial


theorem fresh_qcomp {prog : Program} {w : World} {A : Around} {E : Value → Shared → Prop} {s : Shared} {env : Env} {Q : Flow → Shared → Prop} (h : Q .next s) : wpAny (model prog w) A (execs [] env) Q E s := by
  w_top off
  first | (walk1; done) | (walk1; exact h) | exact wpAny_execs_nil h
section
/-! a comprehension over a tuple; set and sorted by the ledger; what quant_piece reads -/
def TupSrc (prog : Program) (w : World) (A : Around) (h₀ : Heap) (L : Addr) (m : Str → Option Value) (env : Env) (elt : PySem.Expr) (x : Str) (scope : Scope) (cl : List (Str × Addr)) (Fin : Shared → List Value → List (Addr × Obj) → Prop) (xv : Value) (s₁ : Shared) : Prop :=
  ∃ ax its news, xv = .ref ax ∧ A.handled = none ∧ Fr h₀ L s₁.heap m ∧ News h₀ L s₁.heap news ∧ IsTup h₀ ax its ∧ its.size ≤ sizeLine ∧
    ∀ s₂ : Shared, (∃ h, s₂ = { s₁ with heap := h }) → LCg.CompRest prog w A h₀ L m env elt x scope cl s₂ (fun _ => True) (fun i v => its[i]? = some v) (Fin s₂) its.size 0 [] news
section
variable {prog : Program} {w : World} {A : Around} {E : Value → Shared → Prop} {s : Shared} {h₀ : Heap} {L : Addr} {m : Str → Option Value} {env : Env}
theorem ListComp_T {elt iter : PySem.Expr} {x : Str} {px : Pos} {scope : Scope} {cl : List (Str × Addr)} {pos : Pos} {Q : Value → Shared → Prop} (_F₀ : Fr h₀ L s.heap m)
    (hclos : closureFor scope env = pure cl) (hcell : ∀ y ∈ scope.names, y.2 ≠ .cell) (hkind : scope.kind = .function)
    (hnames : ∀ y ∈ scope.names, y.2 = .local → scope.names.lookup y.1 = some .local) (hx : scope.names.lookup x = some .local)
    (h : wpAny (model prog w) A (eval iter env) (TupSrc prog w A h₀ L m env elt x scope cl (fun s₂ => LCg.FinE h₀ L m s₂ Q)) E s)
    (hs : ∀ x, foldedSetIterable iter env x = pure x := by intro _; rfl) :
    wpAny (model prog w) A (eval (.ListComp elt [⟨.Name x px, iter, [], 0⟩] scope pos) env) Q E s := by
  rw [eval_ListComp]
  refine wpAny_comprehension_free (use := none) rfl hs hclos hkind hnames (wpAny_mono h (fun xv s₁ h₁ => ?_) fun _ _ e => e)
  obtain ⟨ax, its, news, rfl, hh, F, N, S, hsz, R⟩ := h₁
  have hl : s₁.heap.IsTuple ax its := F.tup S
  have hlt : ax < s₁.heap.objs.size := by obtain ⟨_, e, _⟩ := hl; exact Heap.lt_size e
  refine wpAny_pyIter_tuple hl ?_
  have up : ∀ b o, s₁.heap.get? b = some o → (s₁.heap.push { cls := .type "tuple_iterator", data := .fields #[.ref ax, .int 0 0] }).get? b = some o := fun b o e => Heap.get?_push_of_some _ e
  refine LCg.block_U (S := fun _ => True) (Walks.tuple hh s₁.heap.objs.size ax (Nat.ne_of_lt hlt) its) hsz (fun i h st => by obtain ⟨o, e, _⟩ := st.1; exact ⟨o, e⟩)
    (fun i h h' o nw st e e' k _ _ => ⟨by obtain ⟨o', q, r⟩ := st.1; rw [e] at q; cases q; exact ⟨o, e', r⟩, IsTup.keeps S k⟩) hcell hkind hx ⟨⟨_, Heap.get?_push_size _ rfl, rfl, rfl⟩, IsTup.keeps hl up⟩ (fun b hb => ?_)
    (F.keeps up) (N.grown up) (Nat.ne_of_lt F.ns.lt) (next_is_new F) (fun p hp => Nat.ne_of_lt (Heap.lt_size (N p hp).1)) trivial (R _ ⟨_, rfl⟩) ?_
  · show b < (s₁.heap.push _).objs.size
    rw [Heap.size_push]
    rcases List.mem_cons.mp hb with rfl | hb
    · exact Nat.lt_succ_self _
    · rw [List.mem_singleton.mp hb]; exact Nat.lt_succ_of_lt hlt
  · intro D C h tk m' ys news' F' N' o1 hn hC₀ hD₀ hCL hDL hCD offC fin
    refine ⟨m', hn, fun h'' hs'' => fin D h'' tk (F'.change hs'' hCL hC₀) (fun p hp => ?_) o1⟩
    refine ⟨hs''.extBut _ _ ?_ (N' p hp).1, (N' p hp).2⟩
    rcases List.mem_cons.mp hp with rfl | hp
    · exact Ne.symm hCD
    · exact offC p hp
end
def insI (k : Int) : List Int → List Int
  | [] => [k]
  | a :: r => if k < a then k :: a :: r else if k = a then a :: r else a :: insI k r
def slotsOf (qs : List Int) : List Int := qs.foldl (fun l k => insI k l) []
theorem ins_fst (k : Int) (t : Tok) : ∀ l : List (Int × Tok), (ins k t l).map (·.1) = insI k (l.map (·.1))
  | [] => rfl
  | (a, u) :: r => by
    unfold ins insI
    simp only [List.map_cons]
    by_cases h1 : k < a
    · simp [h1]
    · by_cases h2 : k = a
      · simp [h2]
      · simp only [h1, h2, if_false, List.map_cons, ins_fst k t r]
theorem insAll_fst (ps : List (Int × Tok)) : (insAll ps).map (·.1) = slotsOf (ps.map (·.1)) := by
  have key : ∀ (ps l : List (Int × Tok)), (ps.foldl (fun l p => ins p.1 p.2 l) l).map (·.1) = (ps.map (·.1)).foldl (fun l k => insI k l) (l.map (·.1)) := by
    intro ps
    induction ps with
    | nil => intro l; rfl
    | cons p r ih => intro l; rw [List.foldl_cons, ih, ins_fst]; rfl
  exact key ps []
theorem slotsOf_mem {qs : List Int} {x : Int} : x ∈ slotsOf qs ↔ x ∈ qs := by
  have h := insAll_keys x qs.length (qs.map fun q => (q, 0)) (by simp)
  rw [insAll_fst] at h
  have e : (qs.map fun q => (q, (0 : Tok))).map (·.1) = qs := by simp [Function.comp_def]
  rw [e] at h; exact h
theorem slotsOf_len {qs : List Int} (h : ∀ q ∈ qs, 0 ≤ q ∧ q ≤ 3) : (slotsOf qs).length ≤ 4 := by
  have hs := insAll_sm qs.length (qs.map fun q => (q, 0)) (by simp) (fun p hp => by obtain ⟨q, hq, rfl⟩ := List.mem_map.mp hp; exact h q hq)
  have := hs.len
  rw [← List.length_map (f := (·.1)), insAll_fst] at this
  have e : (qs.map fun q => (q, (0 : Tok))).map (·.1) = qs := by simp [Function.comp_def]
  rw [e] at this; exact this
section
variable {prog : Program} {w : World} {A : Around} {E : Value → Shared → Prop} {s : Shared} {h₀ : Heap} {L : Addr} {m : Str → Option Value} {news : List (Addr × Obj)}
theorem call_set_N {Q : Value → Shared → Prop} {D : Addr} {vs : List Value} {qs : List Int} (hh : A.handled = none) (F : Fr h₀ L s.heap m) (N : News h₀ L s.heap news) (hl : s.heap.IsList D vs.toArray) (hi : IntsAre vs qs) (hr : ∀ q ∈ qs, 0 ≤ q ∧ q ≤ 3)
    (h : ∀ S ep l h' tk, Fr h₀ L h' m → News h₀ L h' ((S, setObjL (ledL w) ep l) :: news) → (∀ p ∈ news, p.1 < S) → Sm l → l.map (·.1) = slotsOf qs → Q (.ref S) { s with heap := h', toks := tk }) :
    wpAny (model prog w) A (call (.type "set") [.ref D]) Q E s := by
  obtain ⟨ps, rfl, rfl⟩ := pairs_of hi
  have hr' : ∀ p ∈ ps, 0 ≤ p.1 ∧ p.1 ≤ 3 := fun p hp => hr _ (List.mem_map_of_mem hp)
  refine call_setL hh hl hr' fun h' tk ep hS hk => h _ ep (insAll ps) h' tk (F.grownK hk) (fun p hp => ?_) (fun p hp => Heap.lt_size (N p hp).1) (insAll_sm _ _ rfl hr') (insAll_fst ps)
  rcases List.mem_cons.mp hp with rfl | hp
  · exact ⟨hS, Ne.symm (Nat.ne_of_lt F.ns.lt), next_is_new F⟩
  · exact ⟨hk _ _ (N p hp).1, (N p hp).2⟩
end
structure CompsAt (h : Heap) (Cm : Addr) (xs : List Value) (qs : List Int) : Prop where
  list : h.IsList Cm xs.toArray
  len : xs.length = qs.length
  row : ∀ (i : Nat) q, qs[i]? = some q → ∃ ci oi es n t, xs[i]? = some (.ref ci) ∧ InstAt h ci oi 238 (some (dictOf es n)) ∧ getL (Str.ofString "quant") es = some (some (.int q t))
structure QkInv (nw0 : List (Addr × Obj)) (qs : List Int) (i : Nat) (ys : List Value) (nw : List (Addr × Obj)) : Prop where
  iv : IntsAre ys (qs.take i)
  hn : nw = nw0
theorem ints_next {ys : List Value} {qs : List Int} {i : Nat} {q : Int} {t : Tok} (h : IntsAre ys (qs.take i)) (hq : qs[i]? = some q) : IntsAre (ys ++ [.int q t]) (qs.take (i + 1)) := by
  rw [List.take_add_one, hq]; exact ia_snoc h

end
theorem off_qcomp : True := by
  k_with "off_qcomp" => skip
  trivial


theorem fresh_quantpiece {prog : Program} {w : World} {A : Around} {E : Value → Shared → Prop} {s : Shared} {env : Env} {Q : Flow → Shared → Prop} (h : Q .next s) : wpAny (model prog w) A (execs [] env) Q E s := by
  w_top off
  first | (walk1; done) | (walk1; exact h) | exact wpAny_execs_nil h
section
/-! «quant_piece», over clean contexts -/
theorem word_w35 : True := by
  k_with "call type:set" => ((fail_if_success k_extra "off_quantpiece"); k_here; (with_reducible show wpAny _ _ (call (Value.type _) [Value.ref _]) _ _ _); k_dflt (refine' call_set_N ?h ?F ?N ?l ?i ?r ?_; (case h => with_unfolding_all rfl); (case F => k_asm); (case N => k_asm); (case l => exact News.isList (by k_asm) (by k_mem)); (case i => assumption); (case r => assumption); k_whole); intro S' ep' l' h' tk' F' N' l1 sm' ks'; (try k_lt l1); (first | (revert S' ep' l' h' tk' F' N' l1 sm' ks'; intros) | (revert S' ep' l' h' tk' F' N' sm' ks'; intros) | (revert S' ep' l' h' tk' F' N' sm' ks'; intros)); (try k_sweep))
  trivial
theorem word_w36 : True := by
  k_with "call builtin:sorted" => ((fail_if_success k_extra "off_quantpiece"); k_here; (with_reducible show wpAny _ _ (call (Value.builtin _) [Value.ref _]) _ _ _); k_dflt (refine' sorted_setL ?h ?F ?N ?S ?m ?_; (case h => with_unfolding_all rfl); (case F => k_asm); (case N => k_asm); (case S => exact News.get (by k_asm) (by k_mem)); (case m => assumption); k_whole); intro D' v' c' h' tk' F' N' l1 iv'; (try k_lt l1); (first | (revert D' v' c' h' tk' F' N' l1 iv'; intros) | (revert D' v' c' h' tk' F' N' iv'; intros) | (revert D' v' c' h' tk' F' N' iv'; intros)); (try k_sweep))
  trivial
theorem word_w37 : True := by
  k_with "eval ListComp" => ((fail_if_success k_extra "off_quantpiece"); refine stop_of ?_)
  trivial
theorem word_w38 : True := by
  k_with "CompSrc" => ((fail_if_success k_extra "off_quantpiece"); refine stop_of ?_)
  trivial
theorem word_w39 : True := by
  k_with "exec For Name Name cons nil" => ((fail_if_success k_extra "off_quantpiece"); refine stop_of ?_)
  trivial
theorem word_w40 : True := by
  k_with "pyIter ref" => ((fail_if_success k_extra "off_quantpiece"); refine stop_of ?_)
  trivial
section
variable {prog : Program} {w : World} {p : Program} {loose : List Str} {mean : ExcName → Option Value} {mg mb : Str → Option Value} {dp un : Nat} {gd : Option (List Code)} {cn : Str} {cs : Scope} {a : Addr} {ccd : Value} {cl : List (Str × Addr)} {outer : List Env} {A₀ : Around} {base h₀ : Heap} {L : Addr} {m : Str → Option Value} {s : Shared} {Q E : Value → Shared → Prop}
variable (B : Below A₀ base outer h₀) (F : Fr h₀ L s.heap m) (X : (hd.heap_1 w.params).In h₀) (T : Top p loose mean mg mb h₀) (hk : cs.kind = .function)
include B F X T hk
theorem quantOf_yes {T q : Addr} {ox : Obj} {es : List DictEntry} {n : Nat} {kvs : List (Int × Value)} {tab : Int → Option (List Int)} {slot : Int} {ts : Tok} {v : Value} {ns : List Int} (ht : tab slot = some ns) (hv : valueAt kvs slot = some v) (I : InstAt s.heap T ox 339 (some (dictOf es n))) (hq : getL (Str.ofString "quant") es = some (some (.ref q))) (H : Held prog w s.heap q kvs tab)
    (hdp : dp + 10 < recursionLimit) (hun : un + 40 < cLine) (hs0 : 0 ≤ slot) (hs1 : slot ≤ 3)
    (ret : ∀ h' tk', (∀ b o, s.heap.get? b = some o → h'.get? b = some o) → Q v { s with heap := h', toks := tk' }) :
    wpAny (model prog w) (ktrTop dp un gd cn cs L a ccd cl outer) (call (.ref 329) [.ref T, .int slot ts]) Q E s :=
  quantOf_spec B F X (by assumption) hk I hq H hdp hun hs0 hs1 (fun v' ns' h' tk' q1 q2 kp => by cases Option.some.inj (q2.symm.trans hv); exact ret h' tk' kp) fun e => absurd (ht.symm.trans e) (by simp)
theorem quantOf_no {T q : Addr} {ox : Obj} {es : List DictEntry} {n : Nat} {kvs : List (Int × Value)} {tab : Int → Option (List Int)} {slot : Int} {ts : Tok} (ht : tab slot = none) (I : InstAt s.heap T ox 339 (some (dictOf es n))) (hq : getL (Str.ofString "quant") es = some (some (.ref q))) (H : Held prog w s.heap q kvs tab)
    (hdp : dp + 10 < recursionLimit) (hun : un + 40 < cLine) (hs0 : 0 ≤ slot) (hs1 : slot ≤ 3)
    (exc : ∀ e h' tk', Flew s.heap (envX cn cs L a ccd cl :: outer) e 85 h' → E (.ref e) { s with heap := h', toks := tk' }) :
    wpAny (model prog w) (ktrTop dp un gd cn cs L a ccd cl outer) (call (.ref 329) [.ref T, .int slot ts]) Q E s :=
  quantOf_spec B F X (by assumption) hk I hq H hdp hun hs0 hs1 (fun v' ns' h' tk' q1 q2 kp => absurd (ht.symm.trans q1) (by simp)) fun _ => exc
end
theorem word_w41 : True := by
  k_with "call ref" => ((fail_if_success k_extra "off_quantpiece"); k_here; (with_reducible show wpAny _ _ (call (Value.ref 329) [Value.ref _, Value.int _ _]) _ _ _); first | (k_dflt (refine' quantOf_no ?B ?F ?X ?T ?hk ?ht ?I ?hq ?H ?hdp ?hun ?s0 ?s1 ?_; (case B => assumption); (case F => k_asm); (case X => k_asm); (case T => k_asm); (case hk => exact rfl); (case ht => assumption); (case I => exact inst_keeps (by assumption) (Fr.keep (by k_asm))); (case hq => assumption); (case H => exact Held.keeps (by assumption) (Fr.keep (by k_asm))); (case hdp => ktr_room); (case hun => ktr_units); (case s0 => assumption); (case s1 => assumption)); intro e' h' tk' fl; (revert e' h' tk' fl; intros)) | (k_dflt (refine' quantOf_yes ?B ?F ?X ?T ?hk ?ht ?hv ?I ?hq ?H ?hdp ?hun ?s0 ?s1 ?_; (case B => assumption); (case F => k_asm); (case X => k_asm); (case T => k_asm); (case hk => exact rfl); (case ht => assumption); (case hv => assumption); (case I => exact inst_keeps (by assumption) (Fr.keep (by k_asm))); (case hq => assumption); (case H => exact Held.keeps (by assumption) (Fr.keep (by k_asm))); (case hdp => ktr_room); (case hun => ktr_units); (case s0 => assumption); (case s1 => assumption)); intro h' tk' kp; (obtain ⟨F', N'⟩ := grow_both (by k_asm) (by k_asm) kp); (revert h' tk' kp F' N'; intros); k_sweep))
  trivial
theorem word_w42 : True := by
  k_with "call builtin:max" => ((fail_if_success k_extra "off_quantpiece"); k_here; (with_reducible show wpAny _ _ (call (Value.builtin _) [Value.ref _]) _ _ _); (with_unfolding_all refine' kso_max ?k1 ?k2 ?k3 ?k4 ?k5 ?k6 ?_; (case k1 => k_asm); (case k2 => k_asm); (case k3 => exact News.isList (by k_asm) (by k_mem)); (case k4 => assumption); (case k5 => assumption); (case k6 => with_unfolding_all rfl); k_whole); intro h' M' t' k' F' N' a' b'; (revert h' M' t' k' F' N' a' b'; intros); (try k_sweep))
  trivial
theorem word_w43 : True := by
  k_with "leaving ref" => ((fail_if_success k_extra "off_quantpiece"); k_here; k_dflt (refine' flew_next ?B ?F ?r ?_; (case r => assumption); (case B => assumption); (case F => assumption)); intro h' hfl'; (revert h' hfl'; intros))
  trivial
theorem word_w44 : True := by
  k_with "call ref" => ((fail_if_success k_extra "off_quantpiece"); k_here; (with_reducible show wpAny _ _ (call (Value.ref 39) _) _ _ _); k_dflt (refine' call_cls ?k1 ?k2 ?k3 ?k4 ?k5 ?k6 ?_; (case k1 => k_asm); (case k2 => k_asm); (case k3 => k_asm); (case k4 => k_is); (case k5 => k_is); (case k6 => k_is); k_whole; intro x' d' h' F' N' l1 l2; (try k_lt l1); (try k_lt2 l2); (first | (revert x' d' h' F' N' l1 l2; intros) | (revert x' d' h' F' N' l2; intros) | (revert x' d' h' F' N' l1; intros) | (revert x' d' h' F' N'; intros)); (try k_sweep)); k_dflt (refine' code_def ?k1 ?k2 ?k3 ?k4 ?k5 ?kA ?kF ?kK ?k6 ?k7 ?k8 ?k9 ?kB ?_ ?c2 ?c3 ?c4 ?c5; (case kA => exact rfl); (case kF => exact rfl); (case kK => exact rfl); (case k1 => k_asm); (case k2 => k_asm); (case k3 => k_asm); (case k4 => k_asm); (case k5 => k_asm); (case k6 => k_is); (case k7 => k_is); (case k8 => ktr_room); (case k9 => first | exact BindsTo.of_eq rfl | exact binds_K (by k_in) rfl (by k_is) rfl rfl rfl); (case c5 => decide); (case kB => exact locs rfl); (case c2 => exact rfl); (case c3 => exact rfl); (case c4 => exact rfl); k_whole; intro g' L' h' FG' F' N' B' X' T'; (try dsimp only); (try k_lift B'); (first | (revert g' L' h' FG' F' N' B' X' T'; intros) | (revert g' L' h' FG' F' N' X' T'; intros) | (revert g' L' h' FG' F' N' X' T'; intros)); (try k_fold)))
  trivial
theorem updC {A B : Str} (a' b' a b : Option Value) (m : Str → Option Value) : (fun y => if y = A then a' else if y = B then b' else if y = A then a else if y = B then b else m y) = fun y => if y = A then a' else if y = B then b' else m y := by
  funext y
  by_cases h1 : y = A
  · simp only [if_pos h1]
  · by_cases h2 : y = B
    · simp only [if_neg h1, if_pos h2]
    · simp only [if_neg h1, if_neg h2]
theorem updD {A B : Str} (m : Str → Option Value) : m = fun y => if y = A then m A else if y = B then m B else m y := by
  funext y
  by_cases h1 : y = A
  · simp [h1]
  · by_cases h2 : y = B
    · subst h2; simp [h1]
    · simp [h1, h2]
structure QpInv (m0 : Str → Option Value) (g : Heap) (R : Addr) (src : Addr × Obj) (tab : Int → Option (List Int)) (slots : List Int) (i : Nat) (m₁ : Str → Option Value) (nw : List (Addr × Obj)) : Prop where
  ex : ∃ a b xs c tups, m₁ = (fun y => if y = Str.ofString "qtable" then a else if y = Str.ofString "slot" then b else m0 y) ∧ nw = (R, listOf (List.toArray xs) c) :: tups ∧ (∀ p ∈ tups, p.1 ≠ R) ∧ src ∈ tups ∧ xs.length = i ∧
    ∀ (j : Nat) k, j < i → slots[j]? = some k → ∃ Ti t wt Tn us ns, xs[j]? = some (.ref Ti) ∧ (Ti, rowTup k t (wideInt ns) wt (.ref Tn)) ∈ tups ∧ tab k = some ns ∧ IsTup g Tn us.toArray ∧ IntsAre us ns ∧ ns.length ≤ 16
section
variable {prog : Program} {w : World} {p : Program} {loose : List Str} {mean : ExcName → Option Value} {mg mb : Str → Option Value} {dp un : Nat} {gd : Option (List Code)} {cn : Str} {cs : Scope} {a : Addr} {ccd : Value} {cl : List (Str × Addr)} {outer : List Env} {A₀ : Around} {base h₀ : Heap} {L : Addr} {m : Str → Option Value} {s : Shared} {Q E : Value → Shared → Prop}
variable (B : Below A₀ base outer h₀) (F : Fr h₀ L s.heap m) (X : (hd.heap_1 w.params).In h₀) (T : Top p loose mean mg mb h₀) (hk : cs.kind = .function)
include B F X T hk
set_option maxHeartbeats 4000000 in
theorem quantPiece_spec {Fx Tx Cm q : Addr} {ofx otx : Obj} {esf est : List DictEntry} {nf nt : Nat} {xs : List Value} {qs : List Int} {kvs : List (Int × Value)} {tab : Int → Option (List Int)}
    (IF : InstAt s.heap Fx ofx 304 (some (dictOf esf nf))) (hcm : getL (Str.ofString "components") esf = some (some (.ref Cm))) (HC : CompsAt s.heap Cm xs qs) (hq4 : qs.length ≤ 4) (hqr : ∀ q ∈ qs, 0 ≤ q ∧ q ≤ 3)
    (IT : InstAt s.heap Tx otx 339 (some (dictOf est nt))) (hq : getL (Str.ofString "quant") est = some (some (.ref q))) (H : Held prog w s.heap q kvs tab)
    (hqo : getL (Str.ofString "quant_of") est = some none)
    (hdp : dp + 40 < recursionLimit) (hun : un + 160 < cLine)
    (ret : ∀ Px d es n t1 t2 t3 h' tk', (∀ k ∈ slotsOf qs, ∃ ns, tab k = some ns ∧ badOf ns = false) → (∀ b o, s.heap.get? b = some o → h'.get? b = some o) → Made s.heap h' [(Px, instObj 39 d), (d, dictOf es n)] → getL (Str.ofString "code") es = some (some (.int 219 t1)) →
      getL (Str.ofString "payload") es = some (some (.bytes (byteArr (encs tab (slotsOf qs))) t2)) → getL (Str.ofString "data") es = some (some (.bytes #[] t3)) → Q (.ref Px) { s with heap := h', toks := tk' })
    (excT : (∃ k ∈ slotsOf qs, tab k = none) → ∀ e h' tk', Flew s.heap (envX cn cs L a ccd cl :: outer) e 85 h' → E (.ref e) { s with heap := h', toks := tk' })
    (excS : (∀ k ∈ slotsOf qs, ∃ ns, tab k = some ns) → (∃ k ∈ slotsOf qs, ∃ ns, tab k = some ns ∧ badOf ns = true) → ∀ e h' tk', Flew s.heap (envX cn cs L a ccd cl :: outer) e 73 h' → E (.ref e) { s with heap := h', toks := tk' }) :
    wpC (model prog w) (ktrTop dp un gd cn cs L a ccd cl outer) (call (.ref 214) [.ref Fx, .ref Tx]) Q E s := by
  refine wpC_call ?_
  k_dflt (refine' enterC0 ?k1 ?k2 ?k3 ?k5 ?kA ?kF ?kK ?k6 ?k7 ?k8 ?k9 ?kB ?_ ?c2 ?c3 ?c4 ?c5; (case kA => exact rfl); (case kF => exact rfl); (case kK => assumption); (case k1 => k_asm); (case k2 => k_asm); (case k3 => k_asm); (case k5 => k_asm); (case k6 => k_is); (case k7 => k_is); (case k8 => ktr_room); (case k9 => exact BindsTo.of_eq rfl); (case c5 => decide); (case kB => exact locs rfl); (case c2 => exact rfl); (case c3 => exact rfl); (case c4 => exact rfl); k_whole; intro L' h' F' N' B' X' T'; (try dsimp only); (try k_fold))
  refine execsC_A ?_
  k_steps
  unfold Stop
  k_dflt (refine LCg.ListComp_U (F₀ := by k_asm) (by rfl) (by decide) (by rfl) (by decide) (by rfl) ?_)
  k_steps
  unfold Stop
  have hcl := HC.list
  have hsz : xs.toArray.size = qs.length := by rw [List.size_toArray]; exact HC.len
  refine LCg.CompSrc.base rfl ‹Fr _ _ _ _› ‹News _ _ _ _› hcl (by rw [hsz, sizeLine_eq]; omega) fun g => ?_
  refine compRest_ind (n := xs.toArray.size) (QkInv [] qs) ?_ ?_ _ 0 [] _ (Nat.zero_add _) ⟨.nil, rfl⟩
  · rintro i ys nw hi ⟨hv, rfl⟩ v I oI C oC D m₂ h tk E' hP hC hx F9 N9 off n1 n2 n3
    obtain ⟨qi, hqi⟩ : ∃ q, qs[i]? = some q := ⟨_, List.getElem?_eq_getElem (by omega)⟩
    obtain ⟨ci, oi, es, n, t, hx1, hI, hg⟩ := HC.row i qi hqi
    have hv2 : v = .ref ci := by simp only [List.getElem?_toArray] at hP; rw [hx1] at hP; exact (Option.some.inj hP).symm
    subst hv2
    clear F' N'
    simp only [LCg.Off3, and_true] at off
    k_steps
    exact ⟨ints_next hv hqi, rfl⟩
  · rintro ys nw ⟨hv, rfl⟩
    rw [hsz, List.take_length] at hv
    k_steps
    rename_i D1 h3 tk3 o1 S1 ep1 l1 h4 tk4 sm1 ks1 lt1 Ds vs2 c2 h5 tk5 iv2 lt2 h6 F6 N6
    rw [ks1] at iv2
    refine execsC_A ?_
    k_steps
    refine execsC_A ?_
    k_steps
    unfold Stop
    refine wpAny_For ?_
    k_steps
    unfold Stop
    rename_i R h7 lt3 h8 F8 N8
    refine listLoopA (Inv := QpInv _ s.heap R (Ds, W.listOf vs2.toArray c2) tab (slotsOf qs)) rfl (fun I i v s' Q' E' _ hq => wpAny_of_eq rfl hq) PassesOwn.leaving F8 N8 (.inr ⟨_, .tail _ (.head _), rfl, _, rfl⟩) ⟨_, _, [], 0, _, updD _, rfl, ?_, .head _, rfl, by simp⟩ ?_ ?_
    · intro p hp
      rcases List.mem_cons.mp hp with rfl | hp
      · exact Nat.ne_of_lt lt3.1
      · rcases List.mem_cons.mp hp with rfl | hp
        · exact Nat.ne_of_lt lt3.2.1
        · rw [List.mem_singleton.mp hp]; exact Nat.ne_of_lt lt3.2.2
    · rintro I i v oI m₁ nw h tk hi' hv ⟨⟨oa, ob, xs0, c0, tups, rfl, rfl, htR, hsrc, hxl, hrow⟩⟩ F3 N3 off hs
      obtain ⟨n, tn, rfl, hn⟩ := IntsAre.at iv2 i v (by simpa using hv)
      have hmem := List.mem_of_getElem? hn
      obtain ⟨hn0, hn1⟩ := hqr n (slotsOf_mem.mp hmem)
      clear F8 N8
      have off0 := off
      have hi4 : i < 4 := by have := iv2.length; have := slotsOf_len hqr; simp at hi'; omega
      simp only [LCg.Off1, and_true] at off
      cases htab : tab n with
      | none =>
        k_steps
        exact excT ⟨n, hmem, htab⟩ _ _ _ (by assumption)
      | some ns =>
        obtain ⟨Tn, us, hT1, hT2, hT3, hT4, hT5, hT6⟩ := H.yes _ _ htab
        have hne : 0 < ns.length := List.length_pos_iff.mpr hT4
        k_steps
        unfold Stop
        k_dflt (refine ListComp_T (by k_asm) (by rfl) (by decide) (by rfl) (by decide) (by rfl) ?_)
        k_steps
        have hsz2 : us.toArray.size = ns.length := by rw [List.size_toArray]; exact hT3.length
        refine ⟨Tn, us.toArray, _, rfl, rfl, ‹Fr _ _ _ _›, ‹News _ _ _ _›, hT2, by rw [hsz2, sizeLine_eq]; omega, ?_⟩
        rintro s₂ ⟨g2, rfl⟩
        refine compRest_ind (n := us.toArray.size) (QkInv _ ns) ?_ ?_ _ 0 [] _ (Nat.zero_add _) ⟨.nil, rfl⟩
        · rintro j ys nw hj ⟨hv, rfl⟩ v I2 oI2 C oC D m₂ h tk E' hP hC hx F9 N9 off9 n1 n2 n3
          obtain ⟨xi, tx, rfl, hxn⟩ := IntsAre.at hT3 j v (by simpa using hP)
          have off10 := off9
          simp only [LCg.Off3, and_true] at off9
          k_steps
          exact ⟨_, _, _, rfl, F9, N9, off10, trivial, ints_next hv hxn, rfl⟩
        · rintro ys nw ⟨hv, rfl⟩
          rw [hsz2, List.take_length] at hv
          k_steps
          rename_i D3 h33 tk33 o3 h34 M3 t3 k3 a3 b3 D4 h35 l4 h36 F9 N9
          have hW : (if decide (255 < M3) = true then (1 : Int) else 0) = wideInt ns := by unfold wideInt; rw [← wide_eq a3 b3]
          rw [hW, List.push_toArray] at N9
          refine ⟨_, _, _, (R, listOf (List.toArray (xs0 ++ [Value.ref D4])) (c0 + 1)) :: (D4, rowTup n tn (wideInt ns) (k3 + 1) (.ref Tn)) :: tups, rfl, F9, ?_, ⟨off.1, Ne.symm (Nat.ne_of_lt l4.2.1), off.2⟩, .inr ⟨_, .tail _ (.tail _ hsrc), rfl, _, rfl⟩, ⟨_, _, _, _, _, updC _ _ _ _ _, rfl, ?_, .tail _ hsrc, by simp [hxl], ?_⟩⟩
          · intro p hp
            rcases List.mem_cons.mp hp with rfl | hp
            · exact N9 _ (.tail _ (.tail _ (.head _)))
            · rcases List.mem_cons.mp hp with rfl | hp
              · exact N9 _ (.tail _ (.tail _ (.tail _ (.head _))))
              · rcases List.mem_cons.mp hp with rfl | hp
                · exact N9 _ (.head _)
                · exact N9 _ (.tail _ (.tail _ (.tail _ (.tail _ hp))))
          · intro p hp
            rcases List.mem_cons.mp hp with rfl | hp
            · exact Ne.symm (Nat.ne_of_lt l4.2.2.1)
            · exact htR p hp
          · intro j k hj hk
            rcases Nat.lt_succ_iff_lt_or_eq.mp hj with q | q
            · obtain ⟨Ti, t0, wt, Tn0, us0, ns0, e1, e2, e3⟩ := hrow j k q hk
              exact ⟨Ti, t0, wt, Tn0, us0, ns0, by rw [List.getElem?_append_left (by omega)]; exact e1, .tail _ e2, e3⟩
            · subst q
              rw [hn] at hk; cases hk
              exact ⟨D4, tn, _, Tn, us, ns, by rw [List.getElem?_append_right (by omega), hxl]; simp, .head _, htab, hT2, hT3, hT5⟩
    · rintro h tk m₁ nw ⟨⟨oa, ob, xs0, c0, tups, rfl, rfl, htR, hsrc, hxl, hrow⟩⟩ F3 N3
      clear F8 N8
      refine execsC_last (execC_Return (evalC_Call_ofName ?_))
      k_steps
      have hvl : vs2.toArray.size = (slotsOf qs).length := by rw [List.size_toArray]; exact iv2.length
      have hsl4 := slotsOf_len hqr
      have hall : ∀ k ∈ slotsOf qs, ∃ ns, tab k = some ns := fun k hk => by
        obtain ⟨j, hj⟩ := List.getElem?_of_mem hk
        obtain ⟨_, _, _, _, _, ns, _, _, q, _⟩ := hrow j k (by rw [hvl]; exact (List.getElem?_eq_some_iff.mp hj).1) hj
        exact ⟨ns, q⟩
      have hRI : RowsIn h ((slotsOf qs).map fun k => (k, (tab k).getD [])) xs0 := by
        refine ⟨by rw [hxl, hvl, List.length_map], fun j k ns hj => ?_⟩
        rw [List.getElem?_map] at hj
        obtain ⟨k', hj', e⟩ := Option.map_eq_some_iff.mp hj
        cases e
        obtain ⟨Ti, t0, wt, Tn, us, ns, e1, e2, e3, e4, e5, e6⟩ := hrow j k (by rw [hvl]; exact (List.getElem?_eq_some_iff.mp hj').1) hj'
        rw [e3, Option.getD_some]
        exact ⟨Ti, t0, wt, Tn, us, e1, News.isTup N3 (.tail _ e2), IsTup.keeps e4 F3.keep, e5, e6, hqr k (slotsOf_mem.mp (List.mem_of_getElem? hj'))⟩
      have hRl : h.IsList R xs0.toArray := News.isList N3 (.head _)
      refine callWithC_of (keeps_K (K := hd.heap_1 w.params) (by k_dflt k_is)) (splicedC_more (wpC_of ?_))
      k_steps
      refine splicedC_more (evalC_Call_ofName ?_)
      k_steps
      refine callWithC_of (keeps_K (K := hd.heap_1 w.params) (by k_dflt k_is)) (wpC_of ?_)
      k_steps
      k_dflt (refine' writeQuant_spec ?B ?F ?X ?T ?hk ?hR ?hrs ?hr4 ?hdp ?hun ?ret ?exc; (case B => assumption); (case F => k_asm); (case X => k_asm); (case T => k_asm); (case hk => exact rfl); (case hR => exact hRl); (case hrs => exact hRI); (case hr4 => rw [List.length_map]; exact hsl4); (case hdp => ktr_room); (case hun => ktr_units))
      · intro t5 h5 tk5 good kp
        (obtain ⟨F', N'⟩ := grow_both (by k_asm) (by k_asm) kp)
        k_sweep
        have hb : ((slotsOf qs).map fun k => (k, (tab k).getD [])).flatMap (fun r => enc1 r.1 r.2) = encs tab (slotsOf qs) := by unfold encs; rw [List.flatMap_map]
        rw [hb]
        refine splicedC_more (wpC_of ?_)
        k_steps
        refine splicedC_nil ⟨X'.keeps (Fr.keep (by assumption)), wpC_of ?_⟩
        dsimp only [List.nil_append]
        k_steps
        have hgood : ∀ k ∈ slotsOf qs, ∃ ns, tab k = some ns ∧ badOf ns = false := fun k hk => by
          obtain ⟨ns, hns⟩ := hall k hk
          refine ⟨ns, hns, ?_⟩
          have := good (k, (tab k).getD []) (List.mem_map_of_mem hk)
          rwa [hns] at this
        refine' ret _ _ _ _ ?t1 ?t2 ?t3 _ _ hgood ?kp (Made.two (h := s.heap) (L := L') (by assumption) (.head _) (.tail _ (.head _))) ?g1 ?g2 ?g3
        case kp => exact Fr.keep (L := L') (by assumption)
        case g1 => exact rfl
        case g2 => exact rfl
        case g3 => exact rfl
      · intro bad e' h' tk' fl
        k_steps
        refine excS hall ?_ _ _ _ (by assumption)
        obtain ⟨r, hr, hb⟩ := bad
        obtain ⟨k, hk, rfl⟩ := List.mem_map.mp hr
        obtain ⟨ns, hns⟩ := hall k hk
        rw [hns] at hb
        exact ⟨k, hk, ns, hns, hb⟩
end

end
theorem off_quantpiece : True := by
  k_with "off_quantpiece" => skip
  trivial


theorem fresh_rdbytes {prog : Program} {w : World} {A : Around} {E : Value → Shared → Prop} {s : Shared} {env : Env} {Q : Flow → Shared → Prop} (h : Q .next s) : wpAny (model prog w) A (execs [] env) Q E s := by
  w_top off
  first | (walk1; done) | (walk1; exact h) | exact wpAny_execs_nil h
section
/-! bytes of bytes; a slice, an item and the length of octets -/
theorem look_bytes : PySem.typeLookup (.type "bytes") "__bytes__" = pure (some (.builtin "bytes.__bytes__")) := by rw [typeLookup_type, builtinLookup_eq_fast]; kernel_rfl
section
variable {prog : Program} {w : World} {A : Around} {E : Value → Shared → Prop} {s : Shared} {b : Array UInt8} {u : Tok}
theorem bytes_bytes_new {Q : Value → Shared → Prop} (h : ∀ k, Q (.bytes b u) { s with toks := k }) :
    codeAny (model prog w) A (.call (.builtin "bytes.__new__") ⟨[.type "bytes", .bytes b u], []⟩) (wants Q E) s := by
  refine codeAny_of_tree ?_
  show wpAny _ A.in1 (do checkBuiltinCall "bytes.__new__" ⟨[.type "bytes", .bytes b u], []⟩; again (.builtin "bytes.__new__" ⟨[.type "bytes", .bytes b u], []⟩)) _ _ s
  refine wpAny_bind (wpAny_of_eq (F.bm_newCall _) (wpAny_pure ⟨plainId_quiet F.bm_plain _, codeAny_builtin F.bm_entry ?_⟩))
  rw [Around.under_plainId F.bm_plain _]
  unfold Builtin.«bytes.__new__»
  refine wpAny_bind (wpAny_of_eq (a := true) rfl ?_)
  refine bm_if_false rfl ?_
  refine wpAny_bind (wpAny_of_eq F.bm_sub ?_)
  refine bm_if_false rfl ?_
  refine wpAny_bind (wpAny_of_eq (F.bm_bind _) ?_)
  refine wpAny_bind (wpAny_of_eq (a := ()) rfl ?_)
  refine wpAny_bind (wpAny_of_eq (a := ()) rfl ?_)
  refine bm_if_false rfl ?_
  refine wpAny_bind (wpAny_of_eq (KBy.special_eq look_bytes) ?_)
  dsimp only
  refine wpAny_bind (wpAny_rule ?_)
  refine wpAny_bind (wpAny_typeOf (typeIs_bytes _ b u) ?_)
  refine bm_if_true (by decide) ?_
  show wpAny _ _ (if (Value.type "bytes" == Value.type "bytes") = true then _ else _) _ _ _
  refine bm_if_true (by decide) ?_
  first
    | exact wpAny_pure (wpAny_pure (h _))
    | exact wpAny_bind (wpAny_pure (wpAny_pure (h _)))
    | exact wpAny_pure (h _)
theorem call_bytes_bytes {Q : Value → Shared → Prop} (hQ : ∀ k, Q (.bytes b u) { s with toks := k }) :
    wpAny (model prog w) A (call (.type "bytes") [.bytes b u]) Q E s := by
  refine callType_codes (Q₁ := fun obj s₁ => s₁.TypeIs obj "bytes" ∧ Q obj s₁) F.bm_called (F.bm_typeCall _) F.entry_object_init
    (bytes_bytes_new fun k => ⟨typeIs_bytes _ _ _, hQ k⟩) fun obj s₁ h₁ => ?_
  exact ⟨h₁.1, F.args_object_init_2 obj _, object_init_meets F.bm_called.init.lookup F.bm_called.made (by decide) prog w A.in1 _ s₁ ⟨h₁.1, rfl, h₁.2⟩⟩
end
theorem clipAt_mid {n : Nat} {i : Int} (h0 : 0 ≤ i) (h1 : i ≤ n) : clipAt n i = i.toNat := by
  have := clipAt_cast n i
  rw [if_neg (by omega)] at this
  omega
theorem picked_ba {os : List Int} {i j : Int} (h0 : 0 ≤ i) (h1 : i ≤ j) (h2 : j ≤ os.length) : KBy.picked (byteArr os) (some i) (some j) = byteArr ((os.drop i.toNat).take (j - i).toNat) := by
  rw [KBc.picked_eq]
  simp only [Option.elim_some, byteArr_size]
  rw [clipAt_mid h0 (by omega), clipAt_mid (by omega) h2]
  unfold byteArr
  simp only [List.map_take, List.map_drop]
  congr 3
  omega
section
variable {prog : Program} {w : World} {A : Around} {E : Value → Shared → Prop} {s : Shared} {value slice : PySem.Expr} {t : Tok} {h₀ : Heap} {L : Addr} {m : PySem.Str → Option Value} {news : List (Addr × Obj)} {Q : Value → Shared → Prop} {os : List Int} {i j : Int} {ti tj : Tok}
theorem slice_ba (hF : Fr h₀ L s.heap m) (hN : News h₀ L s.heap news) (h0 : 0 ≤ i) (h1 : i ≤ j) (h2 : j ≤ os.length) (hz : os.length ≤ 1000)
    (h : ∀ h' t' k, Fr h₀ L h' m → News h₀ L h' news → Q (.bytes (byteArr ((os.drop i.toNat).take (j - i).toNat)) t') { s with heap := h', toks := k })
    (hs : subscripted slice false (.bytes (byteArr os) t) (.ref s.heap.objs.size) = operate [.ref s.heap.objs.size, .bytes (byteArr os) t] (getItem (.bytes (byteArr os) t) (.ref s.heap.objs.size)) := by with_unfolding_all rfl)
    (ht : ∀ r, letTemporaryGo value (.bytes (byteArr os) t) r = pure () := by intro _; with_unfolding_all rfl) :
    wpAny (model prog w) A (subscriptTail value slice (.bytes (byteArr os) t) (.ref s.heap.objs.size)) Q E { s with heap := s.heap.push { cls := .type "slice", data := .fields #[.int i ti, .int j tj, .none] } } :=
  KBc.slice_K hF hN rfl (.int i ti) (.int j tj) (by rw [KBw.ints_length, byteArr_size]; omega) (fun h' t' k F' N' _ => by rw [picked_ba h0 h1 h2]; exact h h' t' k F' N') hs ht
theorem item_ba {x : Int} {ui : Tok} (h0 : 0 ≤ i) (hx : os[i.toNat]? = some x) (hx0 : 0 ≤ x) (hx1 : x < 256) (hz : os.length ≤ 1000) (h : ∀ t', Q (.int x t') { s with toks := s.toks + 1 })
    (hs : subscripted slice false (.bytes (byteArr os) t) (.int i ui) = operate [.bytes (byteArr os) t, .int i ui] (getItem (.bytes (byteArr os) t) (.int i ui)) := by with_unfolding_all rfl)
    (ht : ∀ r, letTemporaryGo value (.bytes (byteArr os) t) r = pure () := by intro _; with_unfolding_all rfl) :
    wpAny (model prog w) A (subscriptTail value slice (.bytes (byteArr os) t) (.int i ui)) Q E s := by
  have hl := (List.getElem?_eq_some_iff.mp hx).1
  obtain ⟨bs, hb, hbs⟩ : ∃ bs : List UInt8, byteArr os = bs.toArray ∧ bs = os.map fun n => n.toNat.toUInt8 := ⟨_, rfl, rfl⟩
  rw [hb] at hs ht ⊢
  have hbl : bs.length = os.length := by rw [hbs, List.length_map]
  have e : (((bs.getD i.toNat 0).toNat : Nat) : Int) = x := by
    rw [hbs, List.getD_eq_getElem?_getD, List.getElem?_map, hx]
    exact byte_back hx0 hx1
  clear hbs hb
  refine KBy.item_N (by omega) h0 (by omega) ?_ hs ht
  rw [e]
  exact h _
theorem len_ba (hz : os.length ≤ 1000) (h : ∀ t', Q (.int os.length t') { s with toks := s.toks + 1 + 1 }) : wpAny (model prog w) A (call (.builtin "len") [.bytes (byteArr os) t]) Q E s := by
  refine len_bytes (by rw [byteArr_size]; omega) ?_
  rw [byteArr_size]; exact h _
end

end
theorem off_rdbytes : True := by
  k_with "off_rdbytes" => skip
  trivial


theorem fresh_reader {prog : Program} {w : World} {A : Around} {E : Value → Shared → Prop} {s : Shared} {env : Env} {Q : Flow → Shared → Prop} (h : Q .next s) : wpAny (model prog w) A (execs [] env) Q E s := by
  w_top off
  first | (walk1; done) | (walk1; exact h) | exact wpAny_execs_nil h
section
/-! OctetReader: left, take, byte, word; need and read_kind -/
abbrev rdD (w : World) (os : List Int) (k : Int) (t1 t2 t3 t4 : Tok) : Obj := dictOf [{ hash := PyData.keyHash w.params (Str.ofString "octets"), key := .str (Str.ofString "octets") t1, val := .bytes (byteArr os) t2 }, { hash := PyData.keyHash w.params (Str.ofString "at"), key := .str (Str.ofString "at") t3, val := .int k t4 }] 2
theorem hide2 {h g : Heap} {x dx : Addr} {o od : Obj} (hg : g = hideAll h ([(x, o), (dx, od)].map (·.1))) : ∀ b z, b ≠ x → b ≠ dx → h.get? b = some z → g.get? b = some z := fun b z h1 h2 e => by
  rw [hg]; exact hideAll_get _ e (by simp [h1, h2])
theorem news2 {h₀ h : Heap} {L x dx : Addr} {o od : Obj} (h1 : h.get? x = some o) (h2 : x ≠ L) (h3 : h₀.get? x = none) (k1 : h.get? dx = some od) (k2 : dx ≠ L) (k3 : h₀.get? dx = none) : News h₀ L h [(x, o), (dx, od)] := fun p hp => by
  rcases List.mem_cons.mp hp with rfl | hp
  · exact ⟨h1, h2, h3⟩
  · rw [List.mem_singleton.mp hp]; exact ⟨k1, k2, k3⟩
theorem word_w45 : True := by
  k_with "call builtin:len" => ((fail_if_success k_extra "off_reader"); k_here; (with_reducible show wpAny _ _ (call (Value.builtin "len") [Value.bytes (byteArr _) _]) _ _ _); (refine len_ba (by assumption) ?_); intro t'; (revert t'; intros))
  trivial
theorem word_w46 : True := by
  k_with "call type:bytes" => ((fail_if_success k_extra "off_reader"); k_here; (with_reducible show wpAny _ _ (call (Value.type _) [Value.bytes _ _]) _ _ _); (refine call_bytes_bytes ?_); intro k'; (revert k'; intros))
  trivial
local macro_rules | `(tactic| walk_at "subscriptTail") => `(tactic| (k_here; (with_reducible show wpAny _ _ (subscriptTail _ (Expr.Slice _ _ none _) (Value.bytes (byteArr _) _) (Value.ref _)) _ _ _); (with_reducible rename Fr _ _ _ _ => F'); (with_reducible rename News _ _ _ _ => N'); (refine slice_ba (s := ⟨_, _, _, _, _⟩) F' N' (by omega) (by omega) (by omega) (by assumption) ?_); intro h' t' k' F' N'; (try k_sweep)))
theorem td_item0 {os : List Int} {k sz v : Int} (hv : os[k.toNat]? = some v) (hs : 0 < sz) : ((os.drop k.toNat).take sz.toNat)[Int.toNat 0]? = some v := by
  rw [List.getElem?_take_of_lt (by omega), List.getElem?_drop]; exact hv
theorem td_item1 {os : List Int} {k sz v : Int} (hv : os[k.toNat + 1]? = some v) (hs : 1 < sz) : ((os.drop k.toNat).take sz.toNat)[Int.toNat 1]? = some v := by
  rw [List.getElem?_take_of_lt (by omega), List.getElem?_drop]; exact hv
theorem td_len {os : List Int} {k sz : Nat} (h : os.length ≤ 1000) : ((os.drop k).take sz).length ≤ 1000 := by rw [List.length_take, List.length_drop]; omega
section
variable {prog : Program} {w : World} {p : Program} {loose : List Str} {mean : ExcName → Option Value} {mg mb : Str → Option Value} {dp un : Nat} {gd : Option (List Code)} {cn : Str} {cs : Scope} {a : Addr} {ccd : Value} {cl : List (Str × Addr)} {outer : List Env} {A₀ : Around} {base h₀ : Heap} {L : Addr} {m : Str → Option Value} {s : Shared} {Q E : Value → Shared → Prop}
variable (B : Below A₀ base outer h₀) (F : Fr h₀ L s.heap m) (X : (hd.heap_1 w.params).In h₀) (T : Top p loose mean mg mb h₀) (hk : cs.kind = .function)
include B F X T hk
set_option maxHeartbeats 4000000 in
theorem left_spec {x : Addr} {ox : Obj} {es : List DictEntry} {n : Nat} {os : List Int} {k : Int} {t2 t4 : Tok} (I : InstAt s.heap x ox 163 (some (dictOf es n))) (g1 : getL (Str.ofString "octets") es = some (some (.bytes (byteArr os) t2))) (g2 : getL (Str.ofString "at") es = some (some (.int k t4)))
    (hos : os.length ≤ 1000) (hdp : dp + 1 < recursionLimit) (hun : un + 8 < cLine)
    (ret : ∀ t h' tk', (∀ b o, s.heap.get? b = some o → h'.get? b = some o) → Q (.int ((os.length : Int) - k) t) { s with heap := h', toks := tk' }) :
    wpAny (model prog w) (ktrTop dp un gd cn cs L a ccd cl outer) (call (.ref 139) [.ref x]) Q E s := by
  refine wpAny_call ?_
  k_dflt cell_enter
  k_steps
  exact ret _ _ _ (Fr.keep (by assumption))
end
theorem word_w47 : True := by
  k_with "call ref" => ((fail_if_success k_extra "off_reader"); k_here; (try dsimp only [List.cons_append, List.nil_append]); (with_reducible show wpAny _ _ (call (Value.ref 139) [Value.ref _]) _ _ _); k_dflt (refine' left_spec ?B ?F ?X ?T ?hk ?I ?g1 ?g2 ?ho ?hdp ?hun ?_; (case B => assumption); (case F => k_asm); (case X => k_asm); (case T => k_asm); (case hk => exact rfl); (case I => first | exact InstAt.of_news (by k_asm) (by k_mem) (by k_mem) | exact inst_keeps (by assumption) (Fr.keep (by k_asm))); (case g1 => first | assumption | exact rfl); (case g2 => first | assumption | exact rfl); (case ho => assumption); (case hdp => ktr_room); (case hun => ktr_units); k_whole); intro t' h' tk' kp; (obtain ⟨F', N'⟩ := grow_both (by k_asm) (by k_asm) kp); (revert t' h' tk' kp F' N'; intros); k_sweep)
  trivial
section
variable {prog : Program} {w : World} {p : Program} {loose : List Str} {mean : ExcName → Option Value} {mg mb : Str → Option Value} {dp un : Nat} {gd : Option (List Code)} {cn : Str} {cs : Scope} {a : Addr} {ccd : Value} {cl : List (Str × Addr)} {outer : List Env} {A₀ : Around} {base h₀ : Heap} {L : Addr} {m : Str → Option Value} {s : Shared} {Q E : Value → Shared → Prop}
variable (B : Below A₀ base outer h₀) (F : Fr h₀ L s.heap m) (X : (hd.heap_1 w.params).In h₀) (T : Top p loose mean mg mb h₀) (hk : cs.kind = .function)
include B F X T hk
set_option maxHeartbeats 4000000 in
theorem rtake_spec {x dx : Addr} {os : List Int} {k sz : Int} {t1 t2 t3 t4 ts : Tok} (hx : s.heap.get? x = some (instObj 163 dx)) (hd : s.heap.get? dx = some (rdD w os k t1 t2 t3 t4)) (hxd : x ≠ dx) (hxL : x ≠ L) (hdL : dx ≠ L) (hx0 : h₀.get? x = none) (hd0 : h₀.get? dx = none) (hk0 : 0 ≤ k) (hs0 : 0 < sz) (hs : k + sz ≤ os.length) (hos : os.length ≤ 1000)
    (hdp : dp + 4 < recursionLimit) (hun : un + 20 < cLine)
    (ret : ∀ t t4' h' tk', (∀ b o, b ≠ dx → s.heap.get? b = some o → h'.get? b = some o) → h'.get? dx = some (rdD w os (k + sz) t1 t2 t3 t4') → Q (.bytes (byteArr ((os.drop k.toNat).take sz.toNat)) t) { s with heap := h', toks := tk' }) :
    wpAny (model prog w) (ktrTop dp un gd cn cs L a ccd cl outer) (call (.ref 146) [.ref x, .int sz ts]) Q E s := by
  refine wpAny_call ?_
  k_dflt (refine' enter ?k1 ?k2 ?k3 ?k5 ?kA ?kF ?kK [(x, instObj 163 dx), (dx, rdD w os k t1 t2 t3 t4)] (news2 hx hxL hx0 hd hdL hd0) ?k6 ?k7 ?k8 ?k9 ?kB ?_ ?c2 ?c3 ?c4 ?c5; (case kA => exact rfl); (case kF => exact rfl); (case kK => assumption); (case k1 => k_asm); (case k2 => k_asm); (case k3 => k_asm); (case k5 => k_asm); (case k6 => k_is); (case k7 => k_is); (case k8 => ktr_room); (case k9 => exact BindsTo.of_eq rfl); (case c5 => decide); (case kB => exact locs rfl); (case c2 => exact rfl); (case c3 => exact rfl); (case c4 => exact rfl); k_whole; intro g' L' h' hg' F' N' l1 B' X' T'; (try dsimp only); (try k_fold))
  have hh := hide2 hg'
  have hxl : x < L' := l1 _ (.head _)
  have hdl : dx < L' := l1 _ (.tail _ (.head _))
  clear hg'
  k_steps
  rw [show k + sz - k = sz by omega]
  exact ret _ _ _ _ (fun b o hb e => by
    by_cases hbx : b = x
    · subst hbx; rw [hx] at e; cases e; exact News.get ‹News g' L' _ _› (.head _)
    · exact Fr.keep (L := L') (by assumption) b o (hh b o hbx hb e)) (News.get ‹News g' L' _ _› (.tail _ (.head _)))
end
theorem word_w48 : True := by
  k_with "call ref" => ((fail_if_success k_extra "off_reader"); k_here; (try dsimp only [List.cons_append, List.nil_append]); (with_reducible show wpAny _ _ (call (Value.ref 146) [Value.ref _, Value.int _ _]) _ _ _); k_dflt (refine' rtake_spec ?B ?F ?X ?T ?hk ?hx ?hd ?hxd ?hxL ?hdL ?hx0 ?hd0 ?hk0 ?hs0 ?hs ?hos ?hdp ?hun ?_; (case B => assumption); (case F => k_asm); (case X => k_asm); (case T => k_asm); (case hk => exact rfl); (case hx => exact News.get (by k_asm) (by k_mem)); (case hd => exact News.get (by k_asm) (by k_mem)); (case hxd => assumption); (case hxL => exact News.neAt (by k_asm) (by k_mem)); (case hdL => exact News.neAt (by k_asm) (by k_mem)); (case hx0 => exact News.newAt (by k_asm) (by k_mem)); (case hd0 => exact News.newAt (by k_asm) (by k_mem)); (case hk0 => first | assumption | omega); (case hs0 => first | assumption | omega); (case hs => first | assumption | omega); (case hos => assumption); (case hdp => ktr_room); (case hun => ktr_units); k_whole); intro t' t4' h' tk' kp hD'; (obtain ⟨F', N'⟩ := upd_news (by k_asm) (by k_asm) (by k_dflt k_updF) kp hD'); (try dsimp only at N'); clear kp hD'; (revert t' t4' h' tk' F' N'; intros); k_sweep)
  trivial
theorem word_w49 : True := by
  k_with "subscriptTail" => ((fail_if_success k_extra "off_reader"); k_here; (with_reducible show wpAny _ _ (subscriptTail _ _ (Value.bytes (byteArr _) _) (Value.int _ _)) _ _ _); first | ((with_unfolding_all refine' item_ba ?a ?b ?c ?d ?e ?_ ?f ?g; (case a => decide); (case b => exact td_item0 (by assumption) (by decide)); (case c => first | assumption | omega); (case d => first | assumption | omega); (case e => exact td_len (by assumption)); (case f => with_unfolding_all rfl); (case g => intro _; with_unfolding_all rfl); k_whole); intro t'; (revert t'; intros)) | ((with_unfolding_all refine' item_ba ?a ?b ?c ?d ?e ?_ ?f ?g; (case a => decide); (case b => exact td_item1 (by assumption) (by decide)); (case c => first | assumption | omega); (case d => first | assumption | omega); (case e => exact td_len (by assumption)); (case f => with_unfolding_all rfl); (case g => intro _; with_unfolding_all rfl); k_whole); intro t'; (revert t'; intros)))
  trivial
section
variable {prog : Program} {w : World} {p : Program} {loose : List Str} {mean : ExcName → Option Value} {mg mb : Str → Option Value} {dp un : Nat} {gd : Option (List Code)} {cn : Str} {cs : Scope} {a : Addr} {ccd : Value} {cl : List (Str × Addr)} {outer : List Env} {A₀ : Around} {base h₀ : Heap} {L : Addr} {m : Str → Option Value} {s : Shared} {Q E : Value → Shared → Prop}
variable (B : Below A₀ base outer h₀) (F : Fr h₀ L s.heap m) (X : (hd.heap_1 w.params).In h₀) (T : Top p loose mean mg mb h₀) (hk : cs.kind = .function)
include B F X T hk
set_option maxHeartbeats 4000000 in
theorem byte_spec {x dx : Addr} {os : List Int} {k v : Int} {t1 t2 t3 t4 : Tok} (hx : s.heap.get? x = some (instObj 163 dx)) (hd : s.heap.get? dx = some (rdD w os k t1 t2 t3 t4)) (hxd : x ≠ dx) (hxL : x ≠ L) (hdL : dx ≠ L) (hx0 : h₀.get? x = none) (hd0 : h₀.get? dx = none) (hk0 : 0 ≤ k) (hv : os[k.toNat]? = some v) (hv0 : 0 ≤ v) (hv1 : v < 256) (hos : os.length ≤ 1000)
    (hdp : dp + 8 < recursionLimit) (hun : un + 40 < cLine)
    (ret : ∀ t t4' h' tk', (∀ b o, b ≠ dx → s.heap.get? b = some o → h'.get? b = some o) → h'.get? dx = some (rdD w os (k + 1) t1 t2 t3 t4') → Q (.int v t) { s with heap := h', toks := tk' }) :
    wpAny (model prog w) (ktrTop dp un gd cn cs L a ccd cl outer) (call (.ref 153) [.ref x]) Q E s := by
  have hlen := (List.getElem?_eq_some_iff.mp hv).1
  refine wpAny_call ?_
  k_dflt (refine' enter ?k1 ?k2 ?k3 ?k5 ?kA ?kF ?kK [(x, instObj 163 dx), (dx, rdD w os k t1 t2 t3 t4)] (news2 hx hxL hx0 hd hdL hd0) ?k6 ?k7 ?k8 ?k9 ?kB ?_ ?c2 ?c3 ?c4 ?c5; (case kA => exact rfl); (case kF => exact rfl); (case kK => assumption); (case k1 => k_asm); (case k2 => k_asm); (case k3 => k_asm); (case k5 => k_asm); (case k6 => k_is); (case k7 => k_is); (case k8 => ktr_room); (case k9 => exact BindsTo.of_eq rfl); (case c5 => decide); (case kB => exact locs rfl); (case c2 => exact rfl); (case c3 => exact rfl); (case c4 => exact rfl); k_whole; intro g' L' h' hg' F' N' l1 B' X' T'; (try dsimp only); (try k_fold))
  have hh := hide2 hg'
  have hxl : x < L' := l1 _ (.head _)
  have hdl : dx < L' := l1 _ (.tail _ (.head _))
  clear hg'
  k_steps
  exact ret _ _ _ _ (fun b o hb e => by
    by_cases hbx : b = x
    · subst hbx; rw [hx] at e; cases e; exact News.get ‹News g' L' _ _› (.head _)
    · exact Fr.keep (L := L') (by assumption) b o (hh b o hbx hb e)) (News.get ‹News g' L' _ _› (.tail _ (.head _)))
end
section
variable {prog : Program} {w : World} {p : Program} {loose : List Str} {mean : ExcName → Option Value} {mg mb : Str → Option Value} {dp un : Nat} {gd : Option (List Code)} {cn : Str} {cs : Scope} {a : Addr} {ccd : Value} {cl : List (Str × Addr)} {outer : List Env} {A₀ : Around} {base h₀ : Heap} {L : Addr} {m : Str → Option Value} {s : Shared} {Q E : Value → Shared → Prop}
variable (B : Below A₀ base outer h₀) (F : Fr h₀ L s.heap m) (X : (hd.heap_1 w.params).In h₀) (T : Top p loose mean mg mb h₀) (hk : cs.kind = .function)
include B F X T hk
set_option maxHeartbeats 4000000 in
theorem rword_spec {x dx : Addr} {os : List Int} {k v u : Int} {t1 t2 t3 t4 : Tok} (hx : s.heap.get? x = some (instObj 163 dx)) (hd : s.heap.get? dx = some (rdD w os k t1 t2 t3 t4)) (hxd : x ≠ dx) (hxL : x ≠ L) (hdL : dx ≠ L) (hx0 : h₀.get? x = none) (hd0 : h₀.get? dx = none) (hk0 : 0 ≤ k) (hv : os[k.toNat]? = some v) (hu : os[k.toNat + 1]? = some u) (hv0 : 0 ≤ v) (hv1 : v < 256) (hu0 : 0 ≤ u) (hu1 : u < 256) (hos : os.length ≤ 1000)
    (hdp : dp + 8 < recursionLimit) (hun : un + 40 < cLine)
    (ret : ∀ t t4' h' tk', (∀ b o, b ≠ dx → s.heap.get? b = some o → h'.get? b = some o) → h'.get? dx = some (rdD w os (k + 2) t1 t2 t3 t4') → Q (.int (v * 256 + u) t) { s with heap := h', toks := tk' }) :
    wpAny (model prog w) (ktrTop dp un gd cn cs L a ccd cl outer) (call (.ref 160) [.ref x]) Q E s := by
  have hlen := (List.getElem?_eq_some_iff.mp hu).1
  refine wpAny_call ?_
  k_dflt (refine' enter ?k1 ?k2 ?k3 ?k5 ?kA ?kF ?kK [(x, instObj 163 dx), (dx, rdD w os k t1 t2 t3 t4)] (news2 hx hxL hx0 hd hdL hd0) ?k6 ?k7 ?k8 ?k9 ?kB ?_ ?c2 ?c3 ?c4 ?c5; (case kA => exact rfl); (case kF => exact rfl); (case kK => assumption); (case k1 => k_asm); (case k2 => k_asm); (case k3 => k_asm); (case k5 => k_asm); (case k6 => k_is); (case k7 => k_is); (case k8 => ktr_room); (case k9 => exact BindsTo.of_eq rfl); (case c5 => decide); (case kB => exact locs rfl); (case c2 => exact rfl); (case c3 => exact rfl); (case c4 => exact rfl); k_whole; intro g' L' h' hg' F' N' l1 B' X' T'; (try dsimp only); (try k_fold))
  have hh := hide2 hg'
  have hxl : x < L' := l1 _ (.head _)
  have hdl : dx < L' := l1 _ (.tail _ (.head _))
  clear hg'
  k_steps
  trace_state
  exact ret _ _ _ _ (fun b o hb e => by
    by_cases hbx : b = x
    · subst hbx; rw [hx] at e; cases e; exact News.get ‹News g' L' _ _› (.head _)
    · exact Fr.keep (L := L') (by assumption) b o (hh b o hbx hb e)) (News.get ‹News g' L' _ _› (.tail _ (.head _)))
end

end
theorem off_reader : True := by
  k_with "off_reader" => skip
  trivial


theorem fresh_readkind {prog : Program} {w : World} {A : Around} {E : Value → Shared → Prop} {s : Shared} {env : Env} {Q : Flow → Shared → Prop} (h : Q .next s) : wpAny (model prog w) A (execs [] env) Q E s := by
  w_top off
  first | (walk1; done) | (walk1; exact h) | exact wpAny_execs_nil h
section
/-! «need» and «read_kind» -/
theorem sixteen_div {p q : Int} (h0 : 0 ≤ q) (h1 : q ≤ 3) : (16 * p + q).fdiv 16 = p := by
  rw [Int.fdiv_eq_ediv_of_nonneg _ (by decide)]; omega
theorem sixteen_mod {p q : Int} (h0 : 0 ≤ q) (h1 : q ≤ 3) : (16 * p + q).fmod 16 = q := by
  rw [Int.fmod_eq_emod_of_nonneg _ (by decide)]; omega
theorem word_w50 : True := by
  k_with "call ref" => ((fail_if_success k_extra "off_readkind"); k_here; (try dsimp only [List.cons_append, List.nil_append]); (with_reducible show wpAny _ _ (call (Value.ref 139) [Value.ref _]) _ _ _); k_dflt (refine' left_spec ?B ?F ?X ?T ?hk ?I ?g1 ?g2 ?ho ?hdp ?hun ?_; (case B => assumption); (case F => k_asm); (case X => k_asm); (case T => k_asm); (case hk => exact rfl); (case I => first | exact InstAt.of_news (by k_asm) (by k_mem) (by k_mem) | exact inst_keeps (by assumption) (Fr.keep (by k_asm))); (case g1 => first | assumption | exact rfl); (case g2 => first | assumption | exact rfl); (case ho => assumption); (case hdp => ktr_room); (case hun => ktr_units); k_whole); intro t' h' tk' kp; (obtain ⟨F', N'⟩ := grow_both (by k_asm) (by k_asm) kp); (revert t' h' tk' kp F' N'; intros); k_sweep)
  trivial
section
variable {prog : Program} {w : World} {p : Program} {loose : List Str} {mean : ExcName → Option Value} {mg mb : Str → Option Value} {dp un : Nat} {gd : Option (List Code)} {cn : Str} {cs : Scope} {a : Addr} {ccd : Value} {cl : List (Str × Addr)} {outer : List Env} {A₀ : Around} {base h₀ : Heap} {L : Addr} {m : Str → Option Value} {s : Shared} {Q E : Value → Shared → Prop}
variable (B : Below A₀ base outer h₀) (F : Fr h₀ L s.heap m) (X : (hd.heap_1 w.params).In h₀) (T : Top p loose mean mg mb h₀) (hk : cs.kind = .function)
include B F X T hk
set_option maxHeartbeats 4000000 in
theorem need_spec {x : Addr} {ox : Obj} {es : List DictEntry} {n : Nat} {os : List Int} {k sz : Int} {t2 t4 tz : Tok} (I : InstAt s.heap x ox 163 (some (dictOf es n))) (g1 : getL (Str.ofString "octets") es = some (some (.bytes (byteArr os) t2))) (g2 : getL (Str.ofString "at") es = some (some (.int k t4))) (g3 : getL (Str.ofString "left") es = some none)
    (hs : sz ≤ os.length - k) (hos : os.length ≤ 1000) (hdp : dp + 4 < recursionLimit) (hun : un + 20 < cLine)
    (ret : ∀ h' tk', (∀ b o, s.heap.get? b = some o → h'.get? b = some o) → Q .none { s with heap := h', toks := tk' }) :
    wpAny (model prog w) (ktrTop dp un gd cn cs L a ccd cl outer) (call (.ref 188) [.ref x, .int sz tz]) Q E s := by
  refine wpAny_call ?_
  k_dflt cell_enter
  k_steps
  exact ret _ _ (Fr.keep (by assumption))
end
theorem word_w51 : True := by
  k_with "call ref" => ((fail_if_success k_extra "off_readkind"); k_here; (try dsimp only [List.cons_append, List.nil_append]); (with_reducible show wpAny _ _ (call (Value.ref 153) [Value.ref _]) _ _ _); k_dflt (refine' byte_spec ?B ?F ?X ?T ?hk ?hx ?hd ?hxd ?hxL ?hdL ?hx0 ?hd0 ?hk0 ?hv ?hv0 ?hv1 ?hos ?hdp ?hun ?_; (case B => assumption); (case F => k_asm); (case X => k_asm); (case T => k_asm); (case hk => exact rfl); (case hx => exact News.get (by k_asm) (by k_mem)); (case hd => exact News.get (by k_asm) (by k_mem)); (case hxd => assumption); (case hxL => exact News.neAt (by k_asm) (by k_mem)); (case hdL => exact News.neAt (by k_asm) (by k_mem)); (case hx0 => exact News.newAt (by k_asm) (by k_mem)); (case hd0 => exact News.newAt (by k_asm) (by k_mem)); (case hk0 => first | assumption | omega); (case hv => assumption); (case hv0 => first | assumption | omega); (case hv1 => first | assumption | omega); (case hos => assumption); (case hdp => ktr_room); (case hun => ktr_units); k_whole); intro t' t4' h' tk' kp hD'; (obtain ⟨F', N'⟩ := upd_news (by k_asm) (by k_asm) (by k_dflt k_updF) kp hD'); (try dsimp only at N'); clear kp hD'; (revert t' t4' h' tk' F' N'; intros); k_sweep)
  trivial
section
variable {prog : Program} {w : World} {p : Program} {loose : List Str} {mean : ExcName → Option Value} {mg mb : Str → Option Value} {dp un : Nat} {gd : Option (List Code)} {cn : Str} {cs : Scope} {a : Addr} {ccd : Value} {cl : List (Str × Addr)} {outer : List Env} {A₀ : Around} {base h₀ : Heap} {L : Addr} {m : Str → Option Value} {s : Shared} {Q E : Value → Shared → Prop}
variable (B : Below A₀ base outer h₀) (F : Fr h₀ L s.heap m) (X : (hd.heap_1 w.params).In h₀) (T : Top p loose mean mg mb h₀) (hk : cs.kind = .function)
include B F X T hk
set_option maxHeartbeats 4000000 in
theorem kind_spec {x dx : Addr} {os : List Int} {k pr q : Int} {t1 t2 t3 t4 tm : Tok} (hx : s.heap.get? x = some (instObj 163 dx)) (hd : s.heap.get? dx = some (rdD w os k t1 t2 t3 t4)) (hxd : x ≠ dx) (hxL : x ≠ L) (hdL : dx ≠ L) (hx0 : h₀.get? x = none) (hd0 : h₀.get? dx = none) (hk0 : 0 ≤ k) (hv : os[k.toNat]? = some (16 * pr + q)) (hp0 : 0 ≤ pr) (hp1 : pr ≤ 1) (hq0 : 0 ≤ q) (hq1 : q ≤ 3) (hos : os.length ≤ 1000)
    (hdp : dp + 12 < recursionLimit) (hun : un + 60 < cLine)
    (ret : ∀ U tp tq t4' h' tk', (∀ b o, b ≠ dx → s.heap.get? b = some o → h'.get? b = some o) → h'.get? dx = some (rdD w os (k + 1) t1 t2 t3 t4') → IsTup h' U #[.int pr tp, .int q tq] → Q (.ref U) { s with heap := h', toks := tk' }) :
    wpAny (model prog w) (ktrTop dp un gd cn cs L a ccd cl outer) (call (.ref 174) [.ref x, .int 1 tm]) Q E s := by
  refine wpAny_call ?_
  k_dflt (refine' enter ?k1 ?k2 ?k3 ?k5 ?kA ?kF ?kK [(x, instObj 163 dx), (dx, rdD w os k t1 t2 t3 t4)] (news2 hx hxL hx0 hd hdL hd0) ?k6 ?k7 ?k8 ?k9 ?kB ?_ ?c2 ?c3 ?c4 ?c5; (case kA => exact rfl); (case kF => exact rfl); (case kK => assumption); (case k1 => k_asm); (case k2 => k_asm); (case k3 => k_asm); (case k5 => k_asm); (case k6 => k_is); (case k7 => k_is); (case k8 => ktr_room); (case k9 => exact BindsTo.of_eq rfl); (case c5 => decide); (case kB => exact locs rfl); (case c2 => exact rfl); (case c3 => exact rfl); (case c4 => exact rfl); k_whole; intro g' L' h' hg' F' N' l1 B' X' T'; (try dsimp only); (try k_fold))
  have hh := hide2 hg'
  have hxl : x < L' := l1 _ (.head _)
  have hdl : dx < L' := l1 _ (.tail _ (.head _))
  clear hg'
  have hd16 := sixteen_div (p := pr) hq0 hq1
  have hm16 := sixteen_mod (p := pr) hq0 hq1
  k_steps
  have N9 := ‹News g' L' _ _›
  rw [hd16, hm16] at N9
  exact ret _ _ _ _ _ _ (fun b o hb e => by
    by_cases hbx : b = x
    · subst hbx; rw [hx] at e; cases e; exact News.get N9 (.tail _ (.head _))
    · exact Fr.keep (L := L') (by assumption) b o (hh b o hbx hb e)) (News.get N9 (.tail _ (.tail _ (.head _)))) (News.isTup N9 (.head _))
end

end
theorem off_readkind : True := by
  k_with "off_readkind" => skip
  trivial


theorem fresh_encplain {prog : Program} {w : World} {A : Around} {E : Value → Shared → Prop} {s : Shared} {env : Env} {Q : Flow → Shared → Prop} (h : Q .next s) : wpAny (model prog w) A (execs [] env) Q E s := by
  w_top off
  first | (walk1; done) | (walk1; exact h) | exact wpAny_execs_nil h
section
/-! the plain law of the octets: where each number of a row lies -/
theorem enc1_numOcts (k : Int) (ns : List Int) : enc1 k ns = (16 * wideInt ns + k) :: ns.flatMap (numOcts (wideOf ns)) := rfl
theorem encR_split {rs : List (Int × List Int)} {j : Nat} {k : Int} {ns : List Int} (h : rs[j]? = some (k, ns)) : encR rs = encR (rs.take j) ++ (((16 * wideInt ns + k) :: ns.flatMap (numOcts (wideOf ns))) ++ encR (rs.drop (j + 1))) := by
  have hj := (List.getElem?_eq_some_iff.mp h).1
  have e : rs = rs.take j ++ (k, ns) :: rs.drop (j + 1) := by
    conv => lhs; rw [← List.take_append_drop j rs]
    rw [List.drop_eq_getElem_cons hj, (List.getElem?_eq_some_iff.mp h).2]
  conv => lhs; rw [e]
  unfold encR
  rw [List.flatMap_append, List.flatMap_cons]
  rfl
theorem octs_len (b : Bool) : ∀ ns : List Int, (ns.flatMap (numOcts b)).length = ns.length * (if b then 2 else 1)
  | [] => by simp
  | n :: r => by
    rw [List.flatMap_cons, List.length_append, octs_len b r, List.length_cons]
    cases b <;> simp [numOcts] <;> omega
theorem octs_narrow : ∀ (ns : List Int) (i : Nat) {x : Int}, ns[i]? = some x → (ns.flatMap (numOcts false))[i]? = some x
  | [], _, _, h => by simp at h
  | n :: r, 0, _, h => by simpa [numOcts] using h
  | n :: r, i + 1, x, h => by
    have := octs_narrow r i (x := x) (by simpa using h)
    simpa [numOcts] using this
theorem octs_wide : ∀ (ns : List Int) (i : Nat) {x : Int}, ns[i]? = some x → (ns.flatMap (numOcts true))[2 * i]? = some (x.fdiv 256) ∧ (ns.flatMap (numOcts true))[2 * i + 1]? = some (x.fmod 256)
  | [], _, _, h => by simp at h
  | n :: r, 0, x, h => by
    have : n = x := by simpa using h
    subst this
    simp [numOcts]
  | n :: r, i + 1, x, h => by
    have := octs_wide r i (x := x) (by simpa using h)
    rw [List.flatMap_cons, show 2 * (i + 1) = 2 * i + 2 by omega]
    simpa [numOcts] using this
theorem encR_len_next {rs : List (Int × List Int)} {j : Nat} {k : Int} {ns : List Int} (h : rs[j]? = some (k, ns)) : (encR (rs.take (j + 1))).length = (encR (rs.take j)).length + 1 + ns.length * (if wideOf ns then 2 else 1) := by
  rw [← encR_next h, List.length_append, List.length_append, octs_len]; simp
theorem encR_len_le {rs : List (Int × List Int)} {j : Nat} {k : Int} {ns : List Int} (h : rs[j]? = some (k, ns)) : (encR (rs.take j)).length + 1 + ns.length * (if wideOf ns then 2 else 1) ≤ (encR rs).length := by
  have := congrArg List.length (encR_split h)
  simp only [List.length_append, List.length_cons, octs_len] at this
  omega
theorem encR_head {rs : List (Int × List Int)} {j : Nat} {k : Int} {ns : List Int} (h : rs[j]? = some (k, ns)) : (encR rs)[(encR (rs.take j)).length]? = some (16 * wideInt ns + k) := by
  rw [encR_split h, List.getElem?_append_right (Nat.le_refl _), Nat.sub_self]; rfl
theorem encR_body {rs : List (Int × List Int)} {j : Nat} {k : Int} {ns : List Int} (h : rs[j]? = some (k, ns)) (i : Nat) (hi : i < (ns.flatMap (numOcts (wideOf ns))).length) : (encR rs)[(encR (rs.take j)).length + 1 + i]? = (ns.flatMap (numOcts (wideOf ns)))[i]? := by
  rw [encR_split h, List.getElem?_append_right (by omega), show (encR (rs.take j)).length + 1 + i - (encR (rs.take j)).length = i + 1 by omega, List.cons_append, List.getElem?_cons_succ, List.getElem?_append_left hi]
theorem encR_narrow {rs : List (Int × List Int)} {j : Nat} {k : Int} {ns : List Int} (h : rs[j]? = some (k, ns)) (hb : wideOf ns = false) {i : Nat} {x : Int} (hx : ns[i]? = some x) : (encR rs)[(encR (rs.take j)).length + 1 + i]? = some x := by
  have hi := (List.getElem?_eq_some_iff.mp hx).1
  rw [encR_body h i (by rw [octs_len, hb]; simpa using hi), hb]
  exact octs_narrow ns i hx
theorem encR_wide {rs : List (Int × List Int)} {j : Nat} {k : Int} {ns : List Int} (h : rs[j]? = some (k, ns)) (hb : wideOf ns = true) {i : Nat} {x : Int} (hx : ns[i]? = some x) :
    (encR rs)[(encR (rs.take j)).length + 1 + 2 * i]? = some (x.fdiv 256) ∧ (encR rs)[(encR (rs.take j)).length + 1 + 2 * i + 1]? = some (x.fmod 256) := by
  have hi := (List.getElem?_eq_some_iff.mp hx).1
  have hl : (ns.flatMap (numOcts (wideOf ns))).length = ns.length * 2 := by rw [octs_len, hb]; simp
  have := octs_wide ns i hx
  constructor
  · rw [encR_body h (2 * i) (by omega), hb]; exact this.1
  · rw [show (encR (rs.take j)).length + 1 + 2 * i + 1 = (encR (rs.take j)).length + 1 + (2 * i + 1) by omega, encR_body h (2 * i + 1) (by omega), hb]; exact this.2
theorem encR_le {rs : List (Int × List Int)} (h : ∀ r ∈ rs, r.2.length ≤ 16) : (encR rs).length ≤ 33 * rs.length := by
  induction rs with
  | nil => simp [encR]
  | cons r rest ih =>
    have := ih fun r hr => h r (.tail _ hr)
    have h1 := h r (.head _)
    unfold encR at *
    rw [List.flatMap_cons, List.length_append, enc1_numOcts, List.length_cons, octs_len, List.length_cons]
    split <;> omega
theorem good_mem {ns : List Int} (h : badOf ns = false) {x : Int} (hx : x ∈ ns) : 1 ≤ x ∧ x ≤ 65535 := by
  have := List.any_eq_false.mp h x hx
  simp only [Bool.or_eq_true, decide_eq_true_eq] at this; omega

end
theorem off_encplain : True := by
  k_with "off_encplain" => skip
  trivial


theorem fresh_readquant {prog : Program} {w : World} {A : Around} {E : Value → Shared → Prop} {s : Shared} {env : Env} {Q : Flow → Shared → Prop} (h : Q .next s) : wpAny (model prog w) A (execs [] env) Q E s := by
  w_top off
  first | (walk1; done) | (walk1; exact h) | exact wpAny_execs_nil h
section
/-! «read_quant» -/
theorem word_w52 : True := by
  k_with "call ref" => ((fail_if_success k_extra "off_readquant"); k_here; (try dsimp only [List.cons_append, List.nil_append]); (with_reducible show wpAny _ _ (call (Value.ref 139) [Value.ref _]) _ _ _); k_dflt (refine' left_spec ?B ?F ?X ?T ?hk ?I ?g1 ?g2 ?ho ?hdp ?hun ?_; (case B => assumption); (case F => k_asm); (case X => k_asm); (case T => k_asm); (case hk => exact rfl); (case I => first | exact InstAt.of_news (by k_asm) (by k_mem) (by k_mem) | exact inst_keeps (by assumption) (Fr.keep (by k_asm))); (case g1 => first | assumption | exact rfl); (case g2 => first | assumption | exact rfl); (case ho => assumption); (case hdp => ktr_room); (case hun => ktr_units); k_whole); intro t' h' tk' kp; (obtain ⟨F', N'⟩ := grow_both (by k_asm) (by k_asm) kp); (revert t' h' tk' kp F' N'; intros); k_sweep)
  trivial
theorem word_w53 : True := by
  k_with "call ref" => ((fail_if_success k_extra "off_readquant"); k_here; (try dsimp only [List.cons_append, List.nil_append]); (with_reducible show wpAny _ _ (call (Value.ref 153) [Value.ref _]) _ _ _); k_dflt (refine' byte_spec ?B ?F ?X ?T ?hk ?hx ?hd ?hxd ?hxL ?hdL ?hx0 ?hd0 ?hk0 ?hv ?hv0 ?hv1 ?hos ?hdp ?hun ?_; (case B => assumption); (case F => k_asm); (case X => k_asm); (case T => k_asm); (case hk => exact rfl); (case hx => exact News.get (by k_asm) (by k_mem)); (case hd => exact News.get (by k_asm) (by k_mem)); (case hxd => first | assumption | exact Nat.ne_of_gt (by assumption)); (case hxL => exact News.neAt (by k_asm) (by k_mem)); (case hdL => exact News.neAt (by k_asm) (by k_mem)); (case hx0 => exact News.newAt (by k_asm) (by k_mem)); (case hd0 => exact News.newAt (by k_asm) (by k_mem)); (case hk0 => first | assumption | omega); (case hv => assumption); (case hv0 => first | assumption | omega); (case hv1 => first | assumption | omega); (case hos => assumption); (case hdp => ktr_room); (case hun => ktr_units); k_whole); intro t' t4' h' tk' kp hD'; (obtain ⟨F', N'⟩ := upd_news (by k_asm) (by k_asm) (by k_dflt k_updF) kp hD'); (try dsimp only at N'); clear kp hD'; (revert t' t4' h' tk' F' N'; intros); k_sweep)
  trivial
theorem word_w54 : True := by
  k_with "call ref" => ((fail_if_success k_extra "off_readquant"); k_here; (try dsimp only [List.cons_append, List.nil_append]); (with_reducible show wpAny _ _ (call (Value.ref 160) [Value.ref _]) _ _ _); k_dflt (refine' rword_spec ?B ?F ?X ?T ?hk ?hx ?hd ?hxd ?hxL ?hdL ?hx0 ?hd0 ?hk0 ?hv ?hu ?hv0 ?hv1 ?hu0 ?hu1 ?hos ?hdp ?hun ?_; (case B => assumption); (case F => k_asm); (case X => k_asm); (case T => k_asm); (case hk => exact rfl); (case hx => exact News.get (by k_asm) (by k_mem)); (case hd => exact News.get (by k_asm) (by k_mem)); (case hxd => first | assumption | exact Nat.ne_of_gt (by assumption)); (case hxL => exact News.neAt (by k_asm) (by k_mem)); (case hdL => exact News.neAt (by k_asm) (by k_mem)); (case hx0 => exact News.newAt (by k_asm) (by k_mem)); (case hd0 => exact News.newAt (by k_asm) (by k_mem)); (case hk0 => first | assumption | omega); (case hv => assumption); (case hv0 => first | assumption | omega); (case hu => assumption); (case hv1 => first | assumption | omega); (case hu0 => first | assumption | omega); (case hu1 => first | assumption | omega); (case hos => assumption); (case hdp => ktr_room); (case hun => ktr_units); k_whole); intro t' t4' h' tk' kp hD'; (obtain ⟨F', N'⟩ := upd_news (by k_asm) (by k_asm) (by k_dflt k_updF) kp hD'); (try dsimp only at N'); clear kp hD'; (revert t' t4' h' tk' F' N'; intros); k_sweep)
  trivial
theorem word_w55 : True := by
  k_with "call ref" => ((fail_if_success k_extra "off_readquant"); k_here; (try dsimp only [List.cons_append, List.nil_append]); (with_reducible show wpAny _ _ (call (Value.ref 174) [Value.ref _, Value.int _ _]) _ _ _); k_dflt (refine' kind_spec ?B ?F ?X ?T ?hk ?hx ?hd ?hxd ?hxL ?hdL ?hx0 ?hd0 ?hk0 ?hv ?hp0 ?hp1 ?hq0 ?hq1 ?hos ?hdp ?hun ?_; (case B => assumption); (case F => k_asm); (case X => k_asm); (case T => k_asm); (case hk => exact rfl); (case hx => exact News.get (by k_asm) (by k_mem)); (case hd => exact News.get (by k_asm) (by k_mem)); (case hxd => first | assumption | exact Nat.ne_of_gt (by assumption)); (case hxL => exact News.neAt (by k_asm) (by k_mem)); (case hdL => exact News.neAt (by k_asm) (by k_mem)); (case hx0 => exact News.newAt (by k_asm) (by k_mem)); (case hd0 => exact News.newAt (by k_asm) (by k_mem)); (case hk0 => first | assumption | omega); (case hv => assumption); (case hp0 => exact wideInt_lo _); (case hp1 => exact wideInt_hi _); (case hq0 => assumption); (case hq1 => assumption); (case hos => assumption); (case hdp => ktr_room); (case hun => ktr_units); k_whole); intro U' tp' tq' t4' h' tk' kp hD' hU'; (obtain ⟨F', N'⟩ := upd_news (by k_asm) (by k_asm) (by k_dflt k_updF) kp hD'); (try dsimp only at N'); clear kp hD'; (revert U' tp' tq' t4' h' tk' hU' F' N'; intros); k_sweep)
  trivial
theorem word_w56 : True := by
  k_with "call ref" => ((fail_if_success k_extra "off_readquant"); k_here; (try dsimp only [List.cons_append, List.nil_append]); (with_reducible show wpAny _ _ (call (Value.ref 188) [Value.ref _, Value.int _ _]) _ _ _); k_dflt (refine' need_spec ?B ?F ?X ?T ?hk ?I ?g1 ?g2 ?g3 ?hs ?ho ?hdp ?hun ?_; (case B => assumption); (case F => k_asm); (case X => k_asm); (case T => k_asm); (case hk => exact rfl); (case I => first | exact InstAt.of_news (by k_asm) (by k_mem) (by k_mem) | exact inst_keeps (by assumption) (Fr.keep (by k_asm))); (case g1 => first | assumption | exact rfl); (case g2 => first | assumption | exact rfl); (case g3 => first | assumption | exact rfl); (case hs => first | assumption | omega); (case ho => assumption); (case hdp => ktr_room); (case hun => ktr_units); k_whole); intro h' tk' kp; (obtain ⟨F', N'⟩ := grow_both (by k_asm) (by k_asm) kp); (revert h' tk' kp F' N'; intros); k_sweep)
  trivial
theorem word_w57 : True := by
  k_with "call ref" => ((fail_if_success k_extra "off_readquant"); k_here; (with_reducible show wpAny _ _ (call (Value.ref 195) [Value.int _ _, Value.int _ _]) _ _ _); k_dflt (refine' check_spec ?B ?F ?X ?T ?hk ?hdp ?hun ?rxw57 ?exw57; (case B => assumption); (case F => k_asm); (case X => k_asm); (case T => k_asm); (case hk => exact rfl); (case hdp => ktr_room); (case hun => ktr_units); (case' rxw57 => (intro q1 q2 h' tk' kp; (obtain ⟨F', N'⟩ := grow_both (by k_asm) (by k_asm) kp); (revert q1 q2 h' tk' kp F' N'; intros); k_sweep)); (case' exw57 => (intro q1 e' h' tk' fl; (revert q1 e' h' tk' fl; intros)))))
  trivial
theorem word_w58 : True := by
  k_with "call ref" => ((fail_if_success k_extra "off_readquant"); k_here; (with_reducible show wpAny _ _ (call (Value.ref 163) _) _ _ _); k_dflt (refine' call_cls ?k1 ?k2 ?k3 ?k4 ?k5 ?k6 ?_; (case k1 => k_asm); (case k2 => k_asm); (case k3 => k_asm); (case k4 => k_is); (case k5 => k_is); (case k6 => k_is); k_whole; intro x' d' h' F' N' l1 l2; (try k_lt l1); (try k_lt2 l2); (first | (revert x' d' h' F' N' l1 l2; intros) | (revert x' d' h' F' N' l2; intros) | (revert x' d' h' F' N' l1; intros) | (revert x' d' h' F' N'; intros)); (try k_sweep)); k_dflt (refine' code_def ?k1 ?k2 ?k3 ?k4 ?k5 ?kA ?kF ?kK ?k6 ?k7 ?k8 ?k9 ?kB ?_ ?c2 ?c3 ?c4 ?c5; (case kA => exact rfl); (case kF => exact rfl); (case kK => exact rfl); (case k1 => k_asm); (case k2 => k_asm); (case k3 => k_asm); (case k4 => k_asm); (case k5 => k_asm); (case k6 => k_is); (case k7 => k_is); (case k8 => ktr_room); (case k9 => first | exact BindsTo.of_eq rfl | exact binds_K (by k_in) rfl (by k_is) rfl rfl rfl); (case c5 => decide); (case kB => exact locs rfl); (case c2 => exact rfl); (case c3 => exact rfl); (case c4 => exact rfl); k_whole; intro g' L' h' FG' F' N' B' X' T'; (try dsimp only); (try k_lift B'); (first | (revert g' L' h' FG' F' N' B' X' T'; intros) | (revert g' L' h' FG' F' N' X' T'; intros) | (revert g' L' h' FG' F' N' X' T'; intros)); (try k_fold)))
  trivial
theorem word_w59 : True := by
  k_with "exec While Compare" => ((fail_if_success k_extra "off_readquant"); refine stop_of ?_)
  trivial
theorem word_w60 : True := by
  k_with "exec For Name Call cons nil" => ((fail_if_success k_extra "off_readquant"); refine stop_of ?_)
  trivial
theorem word_w61 : True := by
  k_with "pyIter ref" => ((fail_if_success k_extra "off_readquant"); refine stop_of ?_)
  trivial
theorem word_w62 : True := by
  k_with "call type:tuple" => ((fail_if_success k_extra "off_readquant"); k_here; (with_reducible show wpAny _ _ (call (Value.type _) [Value.ref _]) _ _ _); k_dflt (refine' kde_tupleOf ?k1 ?k2 ?k3 ?k4 ?k5 ?_; (case k1 => k_asm); (case k2 => k_asm); (case k3 => exact News.isList (by k_asm) (by k_mem)); (case k4 => (rw [List.size_toArray]; omega)); (case k5 => exact rfl); k_whole); intro D' h' F' N' l1; (try k_lt l1); (first | (revert D' h' F' N' l1; intros) | (revert D' h' F' N'; intros) | (revert D' h' F' N'; intros)); (try k_sweep))
  trivial
theorem item_last {prog : Program} {w : World} {A : Around} {E : Value → Shared → Prop} {s : Shared} {value slice : PySem.Expr} {l : Addr} {its : Array Value} {x : Int} {tx u : Tok} {Q : Value → Shared → Prop} (hl : s.heap.IsList l (its.push (.int x tx))) (h : Q (.int x tx) s)
    (hs : subscripted slice false (.ref l) (.int (-1) u) = operate [.ref l, .int (-1) u] (getItem (.ref l) (.int (-1) u)) := by with_unfolding_all rfl) (hg : ∀ r, letTemporaryGo value (.ref l) r = pure () := by intro _; with_unfolding_all rfl) :
    wpAny (model prog w) A (subscriptTail value slice (.ref l) (.int (-1) u)) Q E s := by
  have hsz : ((-1 : Int) + ((its.push (.int x tx)).size : Nat)).toNat = its.size := by rw [Array.size_push]; omega
  exact subscriptTail_builtin hl.typeIs slot_list_getitem.lookup (wpAny_getItem_list_neg hl (by decide) (by rw [Array.size_push]; omega) (by decide) (by rw [hsz]; simp) h) hs hg
theorem word_w63 : True := by
  k_with "subscriptTail" => ((fail_if_success k_extra "off_readquant"); k_here; (with_reducible show wpAny _ _ (subscriptTail _ _ (Value.ref _) (Value.int _ _)) _ _ _); (with_unfolding_all refine' item_last ?a ?_ ?c ?d; (case a => exact News.isList (by k_asm) (by k_mem)); (case c => with_unfolding_all rfl); (case d => intro _; with_unfolding_all rfl); k_whole))
  trivial
section
variable {prog : Program} {w : World} {A : Around} {E : Value → Shared → Prop} {s : Shared} {env : Env} {Q : Flow → Shared → Prop} {h₀ : Heap} {L : Addr} {m : Str → Option Value} {news : List (Addr × Obj)}
def WEnd (h₀ : Heap) (L : Addr) (s : Shared) (J : Nat → (Str → Option Value) → List (Addr × Obj) → Prop) (n : Nat) (Q : Flow → Shared → Prop) (f : Flow) (s₂ : Shared) : Prop :=
  match f with
  | .next | .cont => ∃ h' tk m' nw' n', s₂ = { s with heap := h', toks := tk } ∧ Fr h₀ L h' m' ∧ News h₀ L h' nw' ∧ n' < n ∧ J n' m' nw'
  | .brk => Q .next s₂
  | .ret v => Q (.ret v) s₂
theorem whileA {test : PySem.Expr} {body : List Stmt} {pos : Pos} (J : Nat → (Str → Option Value) → List (Addr × Obj) → Prop) {n₀ : Nat}
    (hE : PassesOwn (model prog w) A env E) (F : Fr h₀ L s.heap m) (N : News h₀ L s.heap news) (hJ : J n₀ m news)
    (turn : ∀ n m₁ nw h tk, J n m₁ nw → Fr h₀ L h m₁ → News h₀ L h nw →
      wpAny (model prog w) A (isTrue test env (eval test env)) (fun b s₂ =>
        if b = true then wpAny (model prog w) A (execs body env) (WEnd h₀ L s J n Q) E s₂ else Q .next s₂) E { s with heap := h, toks := tk }) :
    wpAny (model prog w) A (exec (.While test body [] pos) env) Q E s := by
  refine wpAny_While (codeAny_whileLoop (fun n s' => ∃ h₁ tk₁ m₁ nw, s' = { s with heap := h₁, toks := tk₁ } ∧ Fr h₀ L h₁ m₁ ∧ News h₀ L h₁ nw ∧ J n m₁ nw) ?_ n₀ ⟨s.heap, s.toks, m, news, rfl, F, N, hJ⟩)
  rintro n s' ⟨h₁, tk₁, m₁, nw, rfl, F₁, N₁, J₁⟩
  refine wpAny_mono (turn n m₁ nw h₁ tk₁ J₁ F₁ N₁) (fun b s₂ h₂ => ?_) hE
  cases b with
  | false =>
    simp only [Bool.false_eq_true, if_false] at h₂ ⊢
    exact wpAny_execs_nil h₂
  | true =>
    simp only [if_true] at h₂ ⊢
    refine wpAny_mono h₂ (fun f s₃ h₃ => ?_) hE
    have next : (∃ h' tk m' nw' n', s₃ = { s with heap := h', toks := tk } ∧ Fr h₀ L h' m' ∧ News h₀ L h' nw' ∧ n' < n ∧ J n' m' nw') → ∃ k, k < n ∧ ∃ h₁ tk₁ m₁ nw, s₃ = { s with heap := h₁, toks := tk₁ } ∧ Fr h₀ L h₁ m₁ ∧ News h₀ L h₁ nw ∧ J k m₁ nw := by
      rintro ⟨h', tk, m₂, nw₂, n', rfl, F₂, N₂, hn, J₂⟩
      exact ⟨n', hn, h', tk, m₂, nw₂, rfl, F₂, N₂, J₂⟩
    cases f with
    | next => exact next h₃
    | cont => exact next h₃
    | brk => exact h₃
    | ret v => exact h₃
end
structure RtInv (w : World) (m0 : Str → Option Value) (D R x dx : Addr) (Ro : Obj) (os : List Int) (P0 sz : Int) (ns : List Int) (t1 t2 t3 : Tok) (rest : List (Addr × Obj)) (i : Nat) (m₁ : Str → Option Value) (nw : List (Addr × Obj)) : Prop where
  ex : ∃ (a : Option Value) (vs : List Value) (cc : Nat) (t4 : Tok), m₁ = (fun y => if y = Str.ofString "turn" then a else m0 y) ∧ nw = (D, listOf (List.toArray vs) cc) :: (R, Ro) :: (x, instObj 163 dx) :: (dx, rdD w os (P0 + sz * (i : Nat)) t1 t2 t3 t4) :: rest ∧ IntsAre vs (ns.take i)
abbrev tupOf (us : List Value) : Obj := { cls := .type "tuple", data := .seq (List.toArray us) }
structure RqInv (w : World) (m0 : Str → Option Value) (x dx R : Addr) (rs : List (Int × List Int)) (n : Nat) (m₁ : Str → Option Value) (nw : List (Addr × Obj)) : Prop where
  ex : ∃ (j : Nat) (a b c d : Option Value) (xs : List Value) (cc : Nat) (t1 t2 t3 t4 : Tok) (tups : List (Addr × Obj)), n + j = rs.length ∧ m₁ = (fun y => if y = Str.ofString "turn" then a else if y = Str.ofString "divisors" then b else if y = Str.ofString "slot" then c else if y = Str.ofString "precision" then d else m0 y) ∧
    nw = (R, listOf (List.toArray xs) cc) :: (x, instObj 163 dx) :: (dx, rdD w (encR rs) ((encR (rs.take j)).length : Nat) t1 t2 t3 t4) :: tups ∧
    (∀ p ∈ tups, p.1 ≠ R) ∧ (∀ p ∈ tups, p.1 ≠ x) ∧ (∀ p ∈ tups, p.1 ≠ dx) ∧ xs.length = j ∧
    ∀ (i : Nat) k ns, i < j → rs[i]? = some (k, ns) → ∃ Ti t wt Tn us, xs[i]? = some (.ref Ti) ∧ (Ti, rowTup k t (wideInt ns) wt (.ref Tn)) ∈ tups ∧ (Tn, tupOf us) ∈ tups ∧ IntsAre us ns
structure RowsRd (rs : List (Int × List Int)) (xs : List Value) (tups : List (Addr × Obj)) : Prop where
  len : xs.length = rs.length
  row : ∀ (i : Nat) k ns, rs[i]? = some (k, ns) → ∃ Ti t wt Tn us, xs[i]? = some (.ref Ti) ∧ (Ti, rowTup k t (wideInt ns) wt (.ref Tn)) ∈ tups ∧ (Tn, tupOf us) ∈ tups ∧ IntsAre us ns
theorem newsRow {h₀ h : Heap} {L : Addr} {a b d r x y : Addr × Obj} {l : List (Addr × Obj)} (N : News h₀ L h (a :: b :: d :: r :: x :: y :: l)) : News h₀ L h (r :: x :: y :: a :: b :: l) := fun p hp => N p (by
  simp only [List.mem_cons] at hp ⊢
  rcases hp with h | h | h | h | h | h <;> simp [h])
theorem row_off {R T1 T2 : Addr} {o1 o2 : Obj} {tups : List (Addr × Obj)} (h2 : @LT.lt Nat _ R T2) (h1 : @LT.lt Nat _ R T1) (ht : ∀ p ∈ tups, p.1 ≠ R) : ∀ p ∈ (T2, o2) :: (T1, o1) :: tups, p.1 ≠ R := by
  intro p hp
  rcases List.mem_cons.mp hp with rfl | hp
  · exact fun e => absurd h2 (by rw [← e]; exact Nat.lt_irrefl _)
  · rcases List.mem_cons.mp hp with rfl | hp
    · exact fun e => absurd h1 (by rw [← e]; exact Nat.lt_irrefl _)
    · exact ht p hp
section
variable {prog : Program} {w : World} {p : Program} {loose : List Str} {mean : ExcName → Option Value} {mg mb : Str → Option Value} {dp un : Nat} {gd : Option (List Code)} {cn : Str} {cs : Scope} {a : Addr} {ccd : Value} {cl : List (Str × Addr)} {outer : List Env} {A₀ : Around} {base h₀ : Heap} {L : Addr} {m : Str → Option Value} {s : Shared} {Q E : Value → Shared → Prop}
variable (B : Below A₀ base outer h₀) (F : Fr h₀ L s.heap m) (X : (hd.heap_1 w.params).In h₀) (T : Top p loose mean mg mb h₀) (hk : cs.kind = .function)
include B F X T hk
set_option maxHeartbeats 8000000 in
theorem readQuant_spec {rs : List (Int × List Int)} {nn : Int} {tb tn : Tok} (hr4 : rs.length ≤ 4) (hn0 : 2 ≤ nn) (hn1 : nn ≤ 4) (hrs : ∀ r ∈ rs, 0 ≤ r.1 ∧ r.1 ≤ 3 ∧ ((r.2.length : Nat) : Int) = nn * nn ∧ badOf r.2 = false)
    (hdp : dp + 20 < recursionLimit) (hun : un + 100 < cLine)
    (ret : ∀ R xs c tups h' tk', (∀ b o, s.heap.get? b = some o → h'.get? b = some o) → Made s.heap h' ((R, W.listOf (List.toArray xs) c) :: tups) → RowsRd rs xs tups → Q (.ref R) { s with heap := h', toks := tk' }) :
    wpAny (model prog w) (ktrTop dp un gd cn cs L a ccd cl outer) (call (.ref 202) [.bytes (byteArr (encR rs)) tb, .int nn tn]) Q E s := by
  refine wpAny_call ?_
  k_dflt cell_enter
  k_steps
  unfold Stop
  rename_i R h7 lR h8 F8 N8
  have hnn : nn * nn ≤ 16 ∧ 4 ≤ nn * nn := by
    have : nn = 2 ∨ nn = 3 ∨ nn = 4 := by omega
    rcases this with rfl | rfl | rfl <;> decide
  obtain ⟨hnn1, hnn0⟩ := hnn
  have hrl : ∀ r ∈ rs, r.2.length ≤ 16 := fun r hr => by have := (hrs r hr).2.2.1; omega
  have hos : (encR rs).length ≤ 1000 := by have := encR_le hrl; omega
  refine whileA (RqInv w _ _ _ R rs) PassesOwn.leaving F8 N8 ⟨0, _, _, _, _, [], 0, _, _, _, _, [], rfl, updB _, rfl, by simp, by simp, by simp, rfl, by simp⟩ ?_
  rintro n m₁ nw h tk ⟨j, oa, ob, oc, od, xs, cc, t1, t2, t3, t4, tups, hnj, rfl, rfl, htR, htx, htd, hxl, hrow⟩ F3 N3
  clear F8 N8
  by_cases hj : j < rs.length
  · obtain ⟨⟨k, ns⟩, hrj⟩ : ∃ r, rs[j]? = some r := ⟨_, List.getElem?_eq_getElem hj⟩
    obtain ⟨hk0, hk1, hnl, hgood⟩ := hrs _ (List.mem_of_getElem? hrj)
    dsimp only at hk0 hk1 hnl hgood
    have hhead := encR_head hrj
    have hlen := encR_len_le hrj
    have hnext := encR_len_next hrj
    have hnar := @encR_narrow rs j k ns hrj
    have hwid := @encR_wide rs j k ns hrj
    generalize (encR (rs.take j)).length = P at *
    have hhead2 : (encR rs)[Int.toNat ((P : Nat) : Int)]? = some (16 * wideInt ns + k) := hhead
    have hw0 := wideInt_lo ns
    have hw1 := wideInt_hi ns
    have hneed : nn * nn * (1 + wideInt ns) ≤ ((encR rs).length : Int) - ((P : Int) + 1) := by
      rw [← hnl]
      unfold wideInt
      by_cases hb : wideOf ns = true
      · rw [if_pos hb] at hlen ⊢; omega
      · rw [if_neg hb] at hlen ⊢; omega
    have hPl : P < (encR rs).length := by omega
    have hP0 : (0 : Int) ≤ (P : Int) := Int.natCast_nonneg _
    k_steps
    unfold Stop
    refine wpAny_For ?_
    k_steps
    unfold Stop
    rename_i D hA lD hB FB NB hC tkC t5 u5 v5 hR F9 N9 kp9
    have hst : (P : Int) + 1 = (P : Int) + 1 + (1 + wideInt ns) * ((0 : Nat) : Int) := by simp
    rw [hst] at N9
    refine rangeLoopA (n := ns.length) (Inv := RtInv w _ D R _ _ _ (encR rs) ((P : Int) + 1) (1 + wideInt ns) ns t1 t2 t3 tups) rfl PassesOwn.leaving F9 N9 hR ?sm ?sz ⟨_, [], 0, _, updSelf _ _, rfl, .nil⟩ ?_ ?_
    case sm => exact PySem.small_one (by omega) (by omega) (by omega) (by omega)
    case sz => unfold Builtin.Range.rangeSize; simp; omega
    · rintro I i v oI m₁ nw h tk hi ⟨tv, rfl⟩ ⟨da, vs, dcc, t4, rfl, rfl, hvs⟩ F5 N5 off _
      clear F9 N9 NB FB
      obtain ⟨x, hx⟩ : ∃ x, ns[i]? = some x := ⟨_, List.getElem?_eq_getElem hi⟩
      have hxg := good_mem hgood (List.mem_of_getElem? hx)
      have off0 := off
      simp only [LCg.Off1, and_true] at off
      by_cases hb : wideOf ns = true
      · have hw1 : wideInt ns = 1 := by unfold wideInt; rw [if_pos hb]
        obtain ⟨hv, hu⟩ := hwid hb hx
        have hpe : Int.toNat ((P : Int) + 1 + (1 + wideInt ns) * (i : Int)) = P + 1 + 2 * i := by rw [hw1]; omega
        have hv2 : (encR rs)[Int.toNat ((P : Int) + 1 + (1 + wideInt ns) * (i : Int))]? = some (x.fdiv 256) := by rw [hpe]; exact hv
        have hu2 : (encR rs)[Int.toNat ((P : Int) + 1 + (1 + wideInt ns) * (i : Int)) + 1]? = some (x.fmod 256) := by rw [hpe]; exact hu
        have hp0 : 0 ≤ (P : Int) + 1 + (1 + wideInt ns) * (i : Int) := by rw [hw1]; omega
        have hd0 : 0 ≤ x.fdiv 256 := by rw [Int.fdiv_eq_ediv_of_nonneg _ (by decide)]; omega
        have hd1 : x.fdiv 256 < 256 := by rw [Int.fdiv_eq_ediv_of_nonneg _ (by decide)]; omega
        have hm0 : 0 ≤ x.fmod 256 := by rw [Int.fmod_eq_emod_of_nonneg _ (by decide)]; omega
        have hm1 : x.fmod 256 < 256 := by rw [Int.fmod_eq_emod_of_nonneg _ (by decide)]; omega
        have hxe : x.fdiv 256 * 256 + x.fmod 256 = x := by rw [Int.fmod_eq_emod_of_nonneg _ (by decide), Int.fdiv_eq_ediv_of_nonneg _ (by decide)]; omega
        have hvl : vs.length ≤ 16 := by have := hvs.length; rw [List.length_take] at this; omega
        k_steps
        all_goals try exact absurd hw1 (by assumption)
        · have q := ‹¬(1 ≤ x.fdiv 256 * 256 + x.fmod 256 ∧ _)›
          rw [hxe, if_pos hw1] at q; exact absurd hxg q
        · have N9 := ‹News s.heap _ _ _›
          have hstep : (P : Int) + 1 + (1 + wideInt ns) * (i : Int) + 2 = (P : Int) + 1 + (1 + wideInt ns) * ((i + 1 : Nat) : Int) := by rw [hw1]; omega
          rw [hxe, hstep, List.push_toArray] at N9
          exact ⟨_, _, _, _, rfl, by assumption, N9, (by exact off0), trivial, ⟨_, _, _, _, updTwice _ _ _ _, rfl, ints_next hvs hx⟩⟩
      · have hb := eq_false_of_ne_true hb
        have hw1 : wideInt ns = 0 := by unfold wideInt; rw [hb]; rfl
        have hv := hnar hb hx
        have hx255 := narrow_le hb (List.mem_of_getElem? hx)
        have hpe : Int.toNat ((P : Int) + 1 + (1 + wideInt ns) * (i : Int)) = P + 1 + i := by rw [hw1]; omega
        have hv2 : (encR rs)[Int.toNat ((P : Int) + 1 + (1 + wideInt ns) * (i : Int))]? = some x := by rw [hpe]; exact hv
        have hp0 : 0 ≤ (P : Int) + 1 + (1 + wideInt ns) * (i : Int) := by rw [hw1]; omega
        have hx0 : 0 ≤ x := by omega
        have hx1 : x < 256 := by omega
        have hvl : vs.length ≤ 16 := by have := hvs.length; rw [List.length_take] at this; omega
        have hwn : ¬ wideInt ns = 1 := by rw [hw1]; decide
        k_steps
        all_goals try exact absurd (by assumption) hwn
        case' _ => k_dflt (refine' check_spec ?B ?F ?X ?T ?hk ?hdp ?hun ?r ?e; (case B => assumption); (case F => k_asm); (case X => k_asm); (case T => k_asm); (case hk => exact rfl); (case hdp => ktr_room); (case hun => ktr_units); (case' r => (intro q1 q2 h' tk' kp; (obtain ⟨F', N'⟩ := grow_both (by k_asm) (by k_asm) kp); k_sweep)); (case' e => (intro q1 e' h' tk' fl)))
        all_goals k_steps
        all_goals try (have q := ‹¬(1 ≤ x ∧ _)›; rw [if_neg hwn] at q; exact absurd ⟨hxg.1, hx255⟩ q)
        · have N9 := ‹News s.heap _ _ _›
          have hstep : (P : Int) + 1 + (1 + wideInt ns) * (i : Int) + 1 = (P : Int) + 1 + (1 + wideInt ns) * ((i + 1 : Nat) : Int) := by rw [hw1]; omega
          rw [hstep] at N9
          (try rw [List.push_toArray] at N9)
          exact ⟨_, _, _, _, rfl, by assumption, N9, (by exact off0), trivial, ⟨_, _, _, _, updTwice _ _ _ _, rfl, ints_next hvs hx⟩⟩
    · rintro h tk m₁ nw ⟨da, vs, dcc, t4, rfl, rfl, hvs⟩ F5 N5
      clear F9 N9 NB FB
      rw [List.take_length] at hvs
      have hvl : vs.length ≤ 16 := by have := hvs.length; have := hrl _ (List.mem_of_getElem? hrj); dsimp only at this; omega
      have hxl2 : xs.length ≤ 16 := by omega
      k_steps
      rename_i T1 h91 l91 T2 h92 l92 h93 F7 N7
      have hP1 : (P : Int) + 1 + (1 + wideInt ns) * ((ns.length : Nat) : Int) = (((encR (rs.take (j + 1))).length : Nat) : Int) := by
        rw [hnext]
        unfold wideInt
        by_cases hb : wideOf ns = true
        · simp only [if_pos hb]; omega
        · simp only [if_neg hb]; omega
      rw [hP1, List.push_toArray] at N7
      have k1 := l91.2.1
      have k2 := l91.2.2.1
      have k3 := l91.2.2.2.1
      have k4 := l92.2.2.1
      have k5 := l92.2.2.2.1
      have k6 := l92.2.2.2.2.1
      have N8 := newsRow N7
      refine ⟨_, _, _, _, n - 1, rfl, F7, N8, by omega, ⟨j + 1, _, _, _, _, _, _, _, _, _, _, _, by omega, updA _ _ _ _ _ _ _ _ _, rfl, ?_, ?_, ?_, by rw [List.length_append, hxl]; rfl, ?_⟩⟩
      · exact row_off k4 k1 htR
      · exact row_off k5 k2 htx
      · exact row_off k6 k3 htd
      · intro i k' ns' hi hri
        by_cases hij : i < j
        · obtain ⟨Ti, t, wt, Tn, us, q1, q2, q3, q4⟩ := hrow i k' ns' hij hri
          exact ⟨Ti, t, wt, Tn, us, by rw [List.getElem?_append_left (by omega)]; exact q1, .tail _ (.tail _ q2), .tail _ (.tail _ q3), q4⟩
        · obtain rfl : i = j := by omega
          obtain ⟨rfl, rfl⟩ : k = k' ∧ ns = ns' := by rw [hrj] at hri; cases hri; exact ⟨rfl, rfl⟩
          exact ⟨T2, _, _, T1, vs, by rw [← hxl, List.getElem?_concat_length], .head _, .tail _ (.head _), hvs⟩
  · have hjj : j = rs.length := by omega
    subst hjj
    rw [List.take_length] at N3
    k_steps
    have NN := ‹News s.heap _ _ _›
    refine ret R xs cc tups _ _ (Fr.keep (by assumption)) (Made.of_news (L := _) (fun p hp => NN p ?_)) ⟨hxl, fun i k ns h => hrow i k ns ?_ h⟩
    · rcases List.mem_cons.mp hp with rfl | hp
      · exact .head _
      · exact .tail _ (.tail _ (.tail _ hp))
    · exact (List.getElem?_eq_some_iff.mp h).1
end

end
theorem off_readquant : True := by
  k_with "off_readquant" => skip
  trivial


theorem fresh_caught {prog : Program} {w : World} {A : Around} {E : Value → Shared → Prop} {s : Shared} {env : Env} {Q : Flow → Shared → Prop} (h : Q .next s) : wpAny (model prog w) A (execs [] env) Q E s := by
  w_top off
  first | (walk1; done) | (walk1; exact h) | exact wpAny_execs_nil h
section
/-! the law's own frame catches what flew into it -/
section
variable {prog : Program} {w : World} {A₀ : Around} {E : Value → Shared → Prop} {s' : Shared} {base g G : Heap} {L a e C : Addr} {m : Str → Option Value} {cn : Str} {cs : Scope} {ccd : Value} {cl : List (Str × Addr)} {news : List (Addr × Obj)} {p : Program} {loose : List Str} {mean : ExcName → Option Value} {mg mb : Str → Option Value}
variable {hs rest : List ExceptHandler} {Q : Flow → Shared → Prop} {x : Str} {np pos : Pos} {b₀ : Stmt} {suite : List Stmt} {nm : Option Str} {C' : Addr}
theorem flew_ground {h : Heap} (F : Fr g L G m) (N : News g L G news) (f : Flew G [envX cn cs L a ccd cl] e C h) : Fr g L h m ∧ News g L h news := by
  obtain ⟨B, a0, hB, hfl, hu⟩ := f
  have st : ∀ b o, G.get? b = some o → b ≠ L → h.get? b = some o := fun b o q n => hfl.1 b o (hB b o q (by simpa using n))
  exact ⟨⟨hu.ns F.ns, fun b o q => st b o (F.keep b o q) (fun z => by rw [z, kts_self F] at q; cases q), F.above⟩, fun q hq => ⟨st _ _ (N q hq).1 (N q hq).2.1, (N q hq).2⟩⟩
theorem flew_ty {M : Model} {h : Heap} {l : List Env} (f : Flew G l e C h) : Looks M h (typeOf (.ref e)) (.ref C) := by
  obtain ⟨B, a0, hB, hfl, hu⟩ := f
  obtain ⟨ob, hob, hc⟩ := hfl.there
  rw [← hc]
  exact (Looks.ld hob).andThen .now
theorem caught_look {A : Around} (hA : A.frames = some [envX cn cs L a ccd cl]) (f : Flew G [envX cn cs L a ccd cl] e C s'.heap)
    (k : ∀ h', Flew G [envX cn cs L a ccd cl] e C h' → wpAny (model prog w) A (handleBy (.ref e) (envX cn cs L a ccd cl) hs) Q E { s' with heap := h' }) :
    wpAny (model prog w) A (noteFrame (.ref e) (envX cn cs L a ccd cl)) (fun _ s₂ => wpAny (model prog w) A (setFlight (.ref e) none) (fun _ s₃ => wpAny (model prog w) A (handleBy (.ref e) (envX cn cs L a ccd cl) hs) Q E s₃) E s₂) E s' := by
  obtain ⟨B, a0, hB, hfl, hu⟩ := f
  refine wpAny_looks_onW hA rfl hfl fun h₄ hheld₄ hsm₄ => ?_
  refine wpAny_landsW hheld₄ fun h₅ hheld hsm₅ => ?_
  exact k h₅ ⟨B, a0, hB, hheld, hu.trans (hsm₄.trans hsm₅)⟩
theorem caught_pass {A : Around} (F : Fr g L G m) (X : (hd.heap_1 w.params).In g) (T : Top p loose mean mg mb g) (f : Flew G [envX cn cs L a ccd cl] e C s'.heap)
    (ex : nsIn (hd.heap_1 w.params) mainGlobals x = some (some (.ref C'))) (he : exmOne (hd.heap_1 w.params) (.ref C) (.ref C') = some false)
    (k : wpAny (model prog w) A (handleBy (.ref e) (envX cn cs L a ccd cl) rest) Q E s')
    (hk : cs.kind = .function) (hx : (envX cn cs L a ccd cl).kindOf x = some .globalImplicit) (hd' : (x == ("__debug__" : Str)) = false) :
    wpAny (model prog w) A (handleBy (.ref e) (envX cn cs L a ccd cl) (.ExceptHandler (some (.Name x np)) nm (b₀ :: suite) pos :: rest)) Q E s' := by
  have F' := (flew_ground F News.nil f).1
  refine wpAny_handleBy_cons (codeAny_handlers_test (nameX_K F' X (topRead_of T) ex ?_ hk hx hd')) (by intro q; cases q)
  exact (exm_one (X.keeps F'.keep) (flew_ty f) he).here k
theorem caught_hit {A : Around} (F : Fr g L G m) (N : News g L G news) (X : (hd.heap_1 w.params).In g) (T : Top p loose mean mg mb g) (f : Flew G [envX cn cs L a ccd cl] e C s'.heap)
    (ex : nsIn (hd.heap_1 w.params) mainGlobals x = some (some (.ref C'))) (he : exmOne (hd.heap_1 w.params) (.ref C) (.ref C') = some true)
    (k : ∀ h', Fr g L h' m → News g L h' news → wpAny (model prog w) (A.mark (some (.ref e))) (execs (b₀ :: suite) (envX cn cs L a ccd cl)) Q E { s' with heap := h' })
    (hk : cs.kind = .function) (hx : (envX cn cs L a ccd cl).kindOf x = some .globalImplicit) (hd' : (x == ("__debug__" : Str)) = false)
    (hE : PassesOwnAt (model prog w) (A.mark (some (.ref e))) A (envX cn cs L a ccd cl) E) :
    wpAny (model prog w) A (handleBy (.ref e) (envX cn cs L a ccd cl) (.ExceptHandler (some (.Name x np)) none (b₀ :: suite) pos :: rest)) Q E s' := by
  have F' := (flew_ground F News.nil f).1
  refine wpAny_handleBy_cons (codeAny_handlers_test (nameX_K F' X (topRead_of T) ex ?_ hk hx hd')) (by intro q; cases q)
  refine (exm_one (X.keeps F'.keep) (flew_ty f) he).here (codeAny_handlers_suite ?_)
  obtain ⟨B, a0, hB, hfl, hu⟩ := f
  refine lands_againW hfl fun h₆ hfl₆ hsm₆ => ?_
  obtain ⟨F₆, N₆⟩ := flew_ground (cn := cn) (cs := cs) (a := a) (ccd := ccd) (cl := cl) F N ⟨B, a0, hB, hfl₆, hu.trans hsm₆⟩
  exact wpAny_passesOwnAt hE (k h₆ F₆ N₆)
end

end
theorem off_caught : True := by
  k_with "off_caught" => skip
  trivial


theorem fresh_lawdefs {prog : Program} {w : World} {A : Around} {E : Value → Shared → Prop} {s : Shared} {env : Env} {Q : Flow → Shared → Prop} (h : Q .next s) : wpAny (model prog w) A (execs [] env) Q E s := by
  w_top off
  first | (walk1; done) | (walk1; exact h) | exact wpAny_execs_nil h
section
theorem made_one {h h' : Heap} {a : Addr} {o : Obj} (e : h.get? a = none) (e' : h'.get? a = some o) : Made h h' [(a, o)] := fun p hp => by
  rw [List.mem_singleton.mp hp]; exact ⟨e', e⟩
theorem ne_lt {a b : Addr} (h : @LT.lt Nat _ a b) : b ≠ a := fun e => absurd h (by rw [e]; exact Nat.lt_irrefl _)
/-- the components of the law: in the ledger behind the source's list and its cell -/
structure CompRows (ys : List Value) (qs : List Int) (tups : List (Addr × Obj)) : Prop where
  len : ys.length = qs.length
  row : ∀ (i : Nat) q, qs[i]? = some q → ∃ ci d es n t, ys[i]? = some (.ref ci) ∧ (ci, instObj 238 d) ∈ tups ∧ (d, dictOf es n) ∈ tups ∧ getL (Str.ofString "quant") es = some (some (.int q t))
theorem CompRows.snoc {ys : List Value} {qs : List Int} {tups : List (Addr × Obj)} {q : Int} {ci d : Addr} {es : List DictEntry} {n : Nat} {t : Tok} (H : CompRows ys qs tups) (hq : getL (Str.ofString "quant") es = some (some (.int q t))) :
    CompRows (ys ++ [.ref ci]) (qs ++ [q]) ((ci, instObj 238 d) :: (d, dictOf es n) :: tups) := by
  refine ⟨by simp [H.len], fun i k hk => ?_⟩
  by_cases hi : i < qs.length
  · rw [List.getElem?_append_left hi] at hk
    obtain ⟨ci', d', es', n', t', h1, h2, h3, h4⟩ := H.row i k hk
    exact ⟨ci', d', es', n', t', by rw [List.getElem?_append_left (by rw [H.len]; exact hi)]; exact h1, .tail _ (.tail _ h2), .tail _ (.tail _ h3), h4⟩
  · have hi2 : i = qs.length := by
      have := (List.getElem?_eq_some_iff.mp hk).1
      simp at this
      omega
    subst hi2
    rw [List.getElem?_concat_length] at hk
    cases hk
    exact ⟨ci, d, es, n, t, by rw [← H.len, List.getElem?_concat_length], .head _, .tail _ (.head _), hq⟩
theorem lt_all {a : Addr} : ∀ {l : List (Addr × Obj)}, AllLt a l → ∀ p ∈ l, p.1 ≠ a
  | [], _, p, hp => nomatch hp
  | q :: l, h, p, hp => by
    rcases List.mem_cons.mp hp with rfl | hp
    · exact fun e => absurd h.1 (by rw [e]; exact Nat.lt_irrefl _)
    · exact lt_all h.2 p hp
theorem CompRows.mono {ys : List Value} {qs : List Int} {t t' : List (Addr × Obj)} (H : CompRows ys qs t) (k : ∀ p ∈ t, p ∈ t') : CompRows ys qs t' :=
  ⟨H.len, fun i q hq => by obtain ⟨ci, d, es, n, t, h1, h2, h3, h4⟩ := H.row i q hq; exact ⟨ci, d, es, n, t, h1, k _ h2, k _ h3, h4⟩⟩
/-- what stays in the law's ledger from the slots' loop on -/
structure LawFix (prog : Program) (w : World) (D q hd cA : Addr) (cO : Obj) (ys : List Value) (qs : List Int) (Frm Tab Cm cd : Addr) (fx : List (Addr × Obj)) : Prop where
  cell : (cA, cO) ∈ fx
  comps : (Cm, LCg.lst ys) ∈ fx
  rows : CompRows ys qs fx
  frm : ∃ dF es n, (Frm, instObj 304 dF) ∈ fx ∧ (dF, dictOf es n) ∈ fx ∧ getL (Str.ofString "components") es = some (some (.ref Cm))
  tab : ∃ dT es n, (Tab, instObj 339 dT) ∈ fx ∧ (dT, dictOf es n) ∈ fx ∧ getL (Str.ofString "quant") es = some (some (.ref q)) ∧ getL (Str.ofString "codes") es = some (some (.ref cd)) ∧ getL (Str.ofString "quant_of") es = some none
  codes : ∃ oc, (cd, oc) ∈ fx ∧ oc.IsDictOf (PySem.intKind prog w) [] ∧ (cd == sysModules) = false
  offD : ∀ p ∈ fx, p.1 ≠ D
  offq : ∀ p ∈ fx, p.1 ≠ q
  offh : ∀ p ∈ fx, p.1 ≠ hd
theorem upd_made {h₀ h h' : Heap} {L D T : Addr} {m : Str → Option Value} {o o' : Obj} {news : List (Addr × Obj)} {f : Obj → List (Addr × Obj)} {vs : Array Value} (F : Fr h₀ L h m) (N : News h₀ L h news) (U : UpdF D o news f)
    (hk : ∀ b x, b ≠ D → h.get? b = some x → h'.get? b = some x) (he : h'.get? D = some o') (hT : IsTup h' T vs) (hT0 : h.get? T = none) :
    ∃ oT, Fr h₀ L h' m ∧ News h₀ L h' ((T, oT) :: f o') ∧ (∀ g : Heap, g.get? T = some oT → IsTup g T vs) ∧ ∀ p ∈ news, @Ne Nat p.1 T := by
  obtain ⟨F', N'⟩ := upd_news F N U hk he
  obtain ⟨oT, e, r⟩ := hT
  obtain ⟨oL, _, _, hL, _⟩ := F.ns
  refine ⟨oT, F', fun p hp => ?_, fun g hg => ⟨oT, hg, r⟩, fun p hp q => ?_⟩
  · rcases List.mem_cons.mp hp with rfl | hp
    · refine ⟨e, fun q => ?_, ?_⟩
      · rw [← q, hT0] at hL; cases hL
      · cases z : h₀.get? T with
        | none => rfl
        | some y => have := F.keep _ _ z; rw [hT0] at this; cases this
    · exact N' p hp
  · have := (N p hp).1
    rw [q, hT0] at this; cases this
theorem stored_new {kvs : List (Int × Value)} {k : Int} {v : Value} (h : ∀ p ∈ kvs, p.1 ≠ k) : PySem.stored kvs k v = kvs ++ [(k, v)] := by
  unfold PySem.stored
  rw [if_neg]
  simp only [List.any_eq_true, decide_eq_true_eq, not_exists, not_and]
  exact h
theorem valueAt_snoc {kvs : List (Int × Value)} {k j : Int} {v : Value} (h : ∀ p ∈ kvs, p.1 ≠ k) : PySem.valueAt (kvs ++ [(k, v)]) j = if j = k then some v else PySem.valueAt kvs j := by
  unfold PySem.valueAt
  rw [List.find?_append]
  by_cases hj : j = k
  · subst hj
    have : kvs.find? (fun kv => decide (kv.1 = j)) = none := List.find?_eq_none.mpr fun p hp => by simpa using h p hp
    rw [this, if_pos rfl]; simp
  · rw [if_neg hj]
    have : (([(k, v)] : List (Int × Value)).find? fun kv => decide (kv.1 = j)) = none := List.find?_eq_none.mpr fun p hp => by
      rw [List.mem_singleton.mp hp]; simpa using fun e => hj e.symm
    rw [this]; simp
/-- the tables of divisors held in the law's ledger -/
structure HeldIn (nn : Int) (kvs : List (Int × Value)) (tab : Int → Option (List Int)) (fx : List (Addr × Obj)) : Prop where
  no : ∀ k, tab k = none → PySem.valueAt kvs k = none
  yes : ∀ k ns, tab k = some ns → ∃ T us oT, PySem.valueAt kvs k = some (.ref T) ∧ (T, oT) ∈ fx ∧ (∀ g : Heap, g.get? T = some oT → IsTup g T us.toArray) ∧ IntsAre us ns ∧ (ns.length : Int) = nn ∧ ∀ n ∈ ns, 0 ≤ n ∧ n ≤ 65536
theorem HeldIn.snoc {nn : Int} {kvs : List (Int × Value)} {tab : Int → Option (List Int)} {fx : List (Addr × Obj)} {k : Int} {T : Addr} {oT : Obj} {us : List Value} {ns : List Int} (H : HeldIn nn kvs tab fx) (hk : ∀ p ∈ kvs, p.1 ≠ k)
    (h1 : ∀ g : Heap, g.get? T = some oT → IsTup g T us.toArray) (h2 : IntsAre us ns) (h3 : (ns.length : Int) = nn) (h4 : ∀ n ∈ ns, 0 ≤ n ∧ n ≤ 65536) :
    HeldIn nn (PySem.stored kvs k (.ref T)) (fun j => if j = k then some ns else tab j) ((T, oT) :: fx) := by
  rw [stored_new hk]
  refine ⟨fun j hj => ?_, fun j ns' hj => ?_⟩
  · rw [valueAt_snoc hk]
    by_cases e : j = k
    · rw [if_pos e] at hj; cases hj
    · rw [if_neg e] at hj ⊢; exact H.no j hj
  · rw [valueAt_snoc hk]
    by_cases e : j = k
    · rw [if_pos e] at hj ⊢
      cases hj
      exact ⟨T, us, oT, rfl, .head _, h1, h2, h3, h4⟩
    · rw [if_neg e] at hj ⊢
      obtain ⟨T', us', o', q1, q2, q3⟩ := H.yes j ns' hj
      exact ⟨T', us', o', q1, .tail _ q2, q3⟩
theorem LawFix.snoc {prog : Program} {w : World} {D q hv cA : Addr} {cO : Obj} {ys : List Value} {qs : List Int} {Frm Tab Cm cd T : Addr} {oT : Obj} {fx : List (Addr × Obj)} (H : LawFix prog w D q hv cA cO ys qs Frm Tab Cm cd fx) (h1 : T ≠ D) (h2 : T ≠ q) (h3 : T ≠ hv) :
    LawFix prog w D q hv cA cO ys qs Frm Tab Cm cd ((T, oT) :: fx) where
  cell := .tail _ H.cell
  comps := .tail _ H.comps
  rows := H.rows.mono fun p hp => .tail _ hp
  frm := by obtain ⟨a, b, c, d, e, f⟩ := H.frm; exact ⟨a, b, c, .tail _ d, .tail _ e, f⟩
  tab := by obtain ⟨a, b, c, d, e, f⟩ := H.tab; exact ⟨a, b, c, .tail _ d, .tail _ e, f⟩
  codes := by obtain ⟨a, b, c⟩ := H.codes; exact ⟨a, .tail _ b, c⟩
  offD := fun p hp => by rcases List.mem_cons.mp hp with rfl | hp; exact h1; exact H.offD p hp
  offq := fun p hp => by rcases List.mem_cons.mp hp with rfl | hp; exact h2; exact H.offq p hp
  offh := fun p hp => by rcases List.mem_cons.mp hp with rfl | hp; exact h3; exact H.offh p hp
structure SlotInv (prog : Program) (w : World) (m0 : Str → Option Value) (nn : Int) (Dn : Nat) (D q hv cA : Addr) (cO : Obj) (ys : List Value) (qs : List Int) (Frm Tab Cm cd : Addr) (i : Nat) (m₁ : Str → Option Value) (nw : List (Addr × Obj)) : Prop where
  ex : ∃ a x y tx ty oq oh kvs tab fx, m₁ = (fun y => if y = Str.ofString "slot" then a else m0 y) ∧ nw = (D, listOf #[Value.int x tx, Value.int y ty] Dn) :: (q, oq) :: (hv, oh) :: fx ∧ LawFix prog w D q hv cA cO ys qs Frm Tab Cm cd fx ∧
    oq.IsDictOf (PySem.intKind prog w) kvs ∧ oh.IsDictOf (PySem.intKind prog w) kvs ∧ HeldIn nn kvs tab fx ∧ (∀ p ∈ kvs, p.1 < (i : Int)) ∧ kvs.length ≤ i ∧ 0 ≤ x ∧ 0 ≤ y ∧ y < 2147483647 ∧ ∀ p ∈ kvs, PySem.valueAt kvs p.1 = some p.2
theorem newsFix {h₀ h : Heap} {L : Addr} {t hd cn cd q T dT Fm dF C D c : Addr × Obj} {l : List (Addr × Obj)} (N : News h₀ L h (t :: hd :: cn :: cd :: q :: T :: dT :: Fm :: dF :: C :: D :: c :: l)) :
    News h₀ L h (D :: q :: hd :: cd :: T :: dT :: Fm :: dF :: C :: c :: l) := fun p hp => N p (by
  simp only [List.mem_cons] at hp ⊢
  rcases hp with h | h | h | h | h | h | h | h | h | h | h <;> simp [h])
structure CompsInv (D cA : Addr) (cO : Obj) (n : Nat) (i : Nat) (ys : List Value) (nw : List (Addr × Obj)) : Prop where
  ex : ∃ qs x y tx ty tups, nw = (D, listOf #[Value.int x tx, Value.int y ty] n) :: (cA, cO) :: tups ∧ CompRows ys qs tups ∧ qs.length = i ∧ (∀ q ∈ qs, 0 ≤ q ∧ q ≤ 3) ∧ 0 ≤ x ∧ 0 ≤ y ∧ y < 2147483647 ∧ (∀ p ∈ tups, p.1 ≠ D) ∧ ∀ p ∈ tups, p.1 ≠ cA
theorem newsComp {h₀ h : Heap} {L : Addr} {a b c d e f g : Addr × Obj} {l : List (Addr × Obj)} (N : News h₀ L h (a :: b :: c :: d :: e :: f :: g :: l)) : News h₀ L h (c :: d :: e :: f :: g :: a :: b :: l) := fun p hp => N p (by
  simp only [List.mem_cons] at hp ⊢
  rcases hp with h | h | h | h | h | h | h | h <;> simp [h])
theorem off_two {D a b : Addr} {o o' : Obj} {l : List (Addr × Obj)} (h1 : a ≠ D) (h2 : b ≠ D) (h : ∀ p ∈ l, p.1 ≠ D) : ∀ p ∈ (a, o) :: (b, o') :: l, p.1 ≠ D := fun p hp => by
  rcases List.mem_cons.mp hp with rfl | hp
  · exact h1
  · rcases List.mem_cons.mp hp with rfl | hp
    · exact h2
    · exact h p hp
theorem stored_self {kvs : List (Int × Value)} {k : Int} {v : Value} (h : ∀ p ∈ kvs, p.1 ≠ k) : PySem.valueAt (PySem.stored kvs k v) k = some v := by
  rw [stored_new h, valueAt_snoc h, if_pos rfl]
theorem tail_of {v : Program} {nm : Str} {P : DefRec → Prop} {d0 : DefRec} {k0 : List (Str × PySem.Expr)} (h : defOf v nm = some (d0, k0)) (hp : P d0) : ∀ (d : DefRec) (kwd : List (Str × PySem.Expr)), defOf v nm = some (d, kwd) → P d := by
  intro d kwd e
  rw [h] at e
  cases e
  exact hp
theorem stored_selfs {kvs : List (Int × Value)} {k : Int} {v : Value} (hk : ∀ p ∈ kvs, p.1 ≠ k) (h : ∀ p ∈ kvs, PySem.valueAt kvs p.1 = some p.2) : ∀ p ∈ PySem.stored kvs k v, PySem.valueAt (PySem.stored kvs k v) p.1 = some p.2 := by
  rw [stored_new hk]
  intro p hp
  rw [valueAt_snoc hk]
  rcases List.mem_append.mp hp with hp | hp
  · rw [if_neg (hk p hp)]; exact h p hp
  · rw [List.mem_singleton.mp hp, if_pos rfl]

end
theorem off_lawdefs : True := by
  k_with "off_lawdefs" => skip
  trivial


theorem fresh_lawloop {prog : Program} {w : World} {A : Around} {E : Value → Shared → Prop} {s : Shared} {env : Env} {Q : Flow → Shared → Prop} (h : Q .next s) : wpAny (model prog w) A (execs [] env) Q E s := by
  w_top off
  first | (walk1; done) | (walk1; exact h) | exact wpAny_execs_nil h
section
theorem word_w64 : True := by
  k_with "exec For Name Call cons nil" => ((fail_if_success k_extra "off_lawloop"); refine stop_of ?_)
  trivial
theorem word_w65 : True := by
  k_with "call ref" => ((fail_if_success k_extra "off_lawloop"); k_extra "my call ref")
  trivial
theorem word_w66 : True := by
  k_with "setItem ref int" => ((fail_if_success k_extra "off_lawloop"); k_extra "my setItem")
  trivial
theorem word_w67 : True := by
  k_with "subscriptTail" => ((fail_if_success k_extra "off_lawloop"); k_extra "my sub")
  trivial
theorem law_rules : True := by
  k_with "my call ref" => (k_here; (with_reducible show wpAny _ _ (call (Value.ref 369) [Value.ref _, Value.int _ _]) _ _ _); k_dflt (refine' divisors_spec ?B ?F ?X ?T ?hk ?hD ?hDL ?hD0 ?hdp ?hun ?hx ?hy ?hy2 ?hm ?hm2 ?_; (case B => assumption); (case F => k_asm); (case X => k_asm); (case T => k_asm); (case hk => exact rfl); (case hD => exact News.get (by k_asm) (by k_mem)); (case hDL => exact News.neAt (by k_asm) (by k_mem)); (case hD0 => exact News.newAt (by k_asm) (by k_mem)); (case hdp => ktr_room); (case hun => ktr_units); (case hx => assumption); (case hy => assumption); (case hy2 => assumption); (case hm => omega); (case hm2 => omega)); intro Tn us ns dx' dtx' dy' dty' h' tk' hA hlen hB hT0 hT x0 y0 y1 kp hD'; (obtain ⟨oT, F', N', hoT, lT⟩ := upd_made (by k_asm) (by k_asm) (by k_dflt k_updF) kp hD' hT hT0); (try dsimp only at N'); (try simp only [List.forall_mem_cons] at lT); k_sweep)
  k_with "my setItem" => (k_here; k_dflt (refine' kda_set (knd := PySem.intKind _ _) ?F ?N ?U ?d (intKind_is _ _ _ _) ?z ?_; (case F => k_asm); (case N => k_asm); (case U => k_updF); (case d => assumption); (case z => (rw [sizeLine_eq]; omega))); intro h' o' F' N' hd'; (try dsimp only at N'); k_sweep)
  k_with "my sub" => (k_here; k_dflt (refine kda_item (knd := PySem.intKind _ _) (by k_asm) (by k_mem) (by assumption) (intKind_is _ _ _ _) (stored_self (by assumption)) ?_))
  trivial
theorem newsSlot {h₀ h : Heap} {L : Addr} {t i d q v : Addr × Obj} {l : List (Addr × Obj)} (N : News h₀ L h (t :: i :: d :: q :: v :: l)) : News h₀ L h (i :: d :: q :: v :: t :: l) := fun p hp => N p (by
  simp only [List.mem_cons] at hp ⊢
  rcases hp with h | h | h | h | h | h <;> simp [h])
theorem stored_lt {kvs : List (Int × Value)} {i : Nat} {v : Value} (h : ∀ p ∈ kvs, p.1 ≠ (0 : Int) + (i : Int)) (h2 : ∀ p ∈ kvs, p.1 < (i : Int)) : ∀ p ∈ PySem.stored kvs (0 + (i : Int)) v, p.1 < ((i + 1 : Nat) : Int) := by
  rw [stored_new h]
  intro p hp
  rcases List.mem_append.mp hp with hp | hp
  · have := h2 p hp; omega
  · rw [List.mem_singleton.mp hp]; show (0 : Int) + (i : Int) < _; omega
section
variable {prog : Program} {w : World} {p : Program} {loose : List Str} {mean : ExcName → Option Value} {mg mb : Str → Option Value} {dp un : Nat} {gd : Option (List Code)} {fa : Addr} {ccd : Value} {A₀ : Around} {base h₀ : Heap} {L : Addr} {s : Shared} {Q : Flow → Shared → Prop}
set_option maxHeartbeats 8000000 in
theorem law_loop {D q hv cA Frm Tab Cm cd : Addr} {cO oq oh : Obj} {ys : List Value} {qs : List Int} {fx : List (Addr × Obj)} {m0 : Str → Option Value} {nv x y : Int} {tn tx ty : Tok} {Dn : Nat} :
    ∀ (d : DefRec) (kwd : List (Str × PySem.Expr)), defOf hd.view_39 (Str.ofString "law") = some (d, kwd) → ∀ (B : Below A₀ base [] h₀) (X : (hd.heap_1 w.params).In h₀) (T : Top p loose mean mg mb h₀)
    (F : Fr h₀ L s.heap fun z => if z = Str.ofString "frame" then some (.ref Frm) else if z = Str.ofString "tables" then some (.ref Tab) else if z = Str.ofString "held" then some (.ref hv) else if z = Str.ofString "components" then some (.ref Cm) else if z = Str.ofString "n" then some (.int nv tn) else m0 z)
    (N : News h₀ L s.heap ((D, listOf #[Value.int x tx, Value.int y ty] Dn) :: (q, oq) :: (hv, oh) :: fx)) (hcO : cO.data = .cell (some (.ref D)))
    (hfx : LawFix prog w D q hv cA cO ys qs Frm Tab Cm cd fx) (hDq : @Ne Nat q D) (hDh : @Ne Nat hv D) (hqh : @Ne Nat hv q) (loq : (q == sysModules) = false) (loh : (hv == sysModules) = false)
    (hiq : oq.IsDictOf (PySem.intKind prog w) []) (hih : oh.IsDictOf (PySem.intKind prog w) []) (hnv1 : 2 ≤ nv) (hnv2 : nv ≤ 4) (hx0 : 0 ≤ x) (hy0 : 0 ≤ y) (hy1 : y < 2147483647) (hdp : dp + 60 < recursionLimit) (hun : un + 300 < cLine)
    (done : ∀ h tk os x y tx ty oq oh kvs tab fx, Fr h₀ L h (fun z => if z = Str.ofString "slot" then os else if z = Str.ofString "frame" then some (.ref Frm) else if z = Str.ofString "tables" then some (.ref Tab) else if z = Str.ofString "held" then some (.ref hv) else if z = Str.ofString "components" then some (.ref Cm) else if z = Str.ofString "n" then some (.int nv tn) else m0 z) →
      News h₀ L h ((D, listOf #[Value.int x tx, Value.int y ty] Dn) :: (q, oq) :: (hv, oh) :: fx) → LawFix prog w D q hv cA cO ys qs Frm Tab Cm cd fx → oq.IsDictOf (PySem.intKind prog w) kvs → oh.IsDictOf (PySem.intKind prog w) kvs → HeldIn (nv * nv) kvs tab fx → (∀ p ∈ kvs, PySem.valueAt kvs p.1 = some p.2) →
      wpC (model prog w) (ktrTop dp un gd (Str.ofString "law") d.scope L fa ccd [(Str.ofString "source", cA)] []) (execs (d.body.drop 5) (envX (Str.ofString "law") d.scope L fa ccd [(Str.ofString "source", cA)])) Q (fun _ _ => False) { s with heap := h, toks := tk }),
    wpC (model prog w) (ktrTop dp un gd (Str.ofString "law") d.scope L fa ccd [(Str.ofString "source", cA)] []) (execs (d.body.drop 4) (envX (Str.ofString "law") d.scope L fa ccd [(Str.ofString "source", cA)])) Q (fun _ _ => False) s := by
  refine tail_of (by rfl) ?_
  dsimp only [List.drop]
  intro B X T F N hcO hfx hDq hDh hqh loq loh hiq hih hnv1 hnv2 hx0 hy0 hy1 hdp hun done
  obtain ⟨hnn1, hnn0⟩ : nv * nv ≤ 16 ∧ 4 ≤ nv * nv := by
    have : nv = 2 ∨ nv = 3 ∨ nv = 4 := by omega
    rcases this with rfl | rfl | rfl <;> decide
  refine execsC_A ?_
  k_steps
  unfold Stop
  refine wpAny_For ?_
  k_steps
  rename_i g8 tk6 sl1 sl2 sl3 hR F9 N9 kp9
  clear kp9
  refine rangeLoopA (n := 4) (Inv := SlotInv prog w _ (nv * nv) Dn D q hv cA cO ys qs Frm Tab Cm cd) rfl PassesOwn.never F9 N9 hR ?sm ?sz
    ⟨_, x, y, tx, ty, oq, oh, [], fun _ => none, fx, updSelf _ _, rfl, hfx, hiq, hih, ⟨fun _ _ => rfl, fun _ _ e => nomatch e⟩, by simp, by simp, hx0, hy0, hy1, by simp⟩ ?_ ?_
  case sm => decide +kernel
  case sz => rfl
  · rintro I i v oI m₁ nw h tk hi ⟨tv, rfl⟩ ⟨sa, x, y, tx, ty, oq, oh, kvs, tab, fx, rfl, rfl, hfx, hiq, hih, hH, hkk, hkl, hx0, hy0, hy1, hks⟩ F5 N5 off _
    clear F9 N9 done
    simp only [LCg.Off1] at off
    have hki : ∀ p ∈ kvs, p.1 ≠ (0 : Int) + (i : Int) := fun p hp e => by have := hkk p hp; omega
    have hmc := hfx.cell
    have hoD := hfx.offD
    have hoq := hfx.offq
    have hoh := hfx.offh
    obtain ⟨dT, esT, nT, htm1, htm2, htg1, htg2, htg3⟩ := hfx.tab
    k_steps
    · refine ⟨_, _, _, _, rfl, (by assumption), newsSlot (by assumption), ⟨off.1, off.2.1, off.2.2.1, Ne.symm lT.1, off.2.2.2⟩, trivial, ⟨_, _, _, _, _, _, _, _, _, _, updTwice _ _ _ _, rfl, hfx.snoc (Ne.symm lT.2.1) (Ne.symm lT.2.2.1) (Ne.symm lT.2.2.2.1), (by assumption), (by assumption), hH.snoc hki hoT hA hlen hB, stored_lt hki hkk, ?_, x0, y0, y1, stored_selfs hki hks⟩⟩
      rw [stored_new hki]; simp; omega
    · exact ⟨_, _, _, _, rfl, (by assumption), (by assumption), (by exact off), trivial, ⟨_, _, _, _, _, _, _, _, _, _, updTwice _ _ _ _, rfl, hfx, hiq, hih, hH, (fun p hp => by have := hkk p hp; omega), by omega, by assumption, by assumption, by assumption, hks⟩⟩
  · rintro h tk m₁ nw ⟨sa, x, y, tx, ty, oq, oh, kvs, tab, fx, rfl, rfl, hfx, hiq, hih, hH, hkk, hkl, hx0, hy0, hy1, hks⟩ F5 N5
    exact done _ _ _ _ _ _ _ _ _ _ _ _ F5 N5 hfx hiq hih hH hks
end

end
theorem off_lawloop : True := by
  k_with "off_lawloop" => skip
  trivial


theorem fresh_lawmem {prog : Program} {w : World} {A : Around} {E : Value → Shared → Prop} {s : Shared} {env : Env} {Q : Flow → Shared → Prop} (h : Q .next s) : wpAny (model prog w) A (execs [] env) Q E s := by
  w_top off
  first | (walk1; done) | (walk1; exact h) | exact wpAny_execs_nil h
section
/-! behind the slots' loop nothing of the law's ledger changes: what is known of it, by membership -/
theorem HeldIn.mono {nn : Int} {kvs : List (Int × Value)} {tab : Int → Option (List Int)} {fx fx' : List (Addr × Obj)} (H : HeldIn nn kvs tab fx) (k : ∀ p ∈ fx, p ∈ fx') : HeldIn nn kvs tab fx' :=
  ⟨H.no, fun j ns e => by obtain ⟨T, us, oT, h1, h2, h3⟩ := H.yes j ns e; exact ⟨T, us, oT, h1, k _ h2, h3⟩⟩
structure LawMem (prog : Program) (w : World) (q hd : Addr) (oq oh : Obj) (ys : List Value) (qs : List Int) (Frm Tab Cm cd : Addr) (nn : Int) (kvs : List (Int × Value)) (tab : Int → Option (List Int)) (fx : List (Addr × Obj)) : Prop where
  mq : (q, oq) ∈ fx
  mh : (hd, oh) ∈ fx
  iq : oq.IsDictOf (PySem.intKind prog w) kvs
  ih : oh.IsDictOf (PySem.intKind prog w) kvs
  lq : (q == sysModules) = false
  lh : (hd == sysModules) = false
  comps : (Cm, LCg.lst ys) ∈ fx
  rows : CompRows ys qs fx
  frm : ∃ dF es n, (Frm, instObj 304 dF) ∈ fx ∧ (dF, dictOf es n) ∈ fx ∧ getL (Str.ofString "components") es = some (some (.ref Cm))
  tabs : ∃ dT es n, (Tab, instObj 339 dT) ∈ fx ∧ (dT, dictOf es n) ∈ fx ∧ getL (Str.ofString "quant") es = some (some (.ref q)) ∧ getL (Str.ofString "codes") es = some (some (.ref cd)) ∧ getL (Str.ofString "quant_of") es = some none
  codes : ∃ oc, (cd, oc) ∈ fx ∧ oc.IsDictOf (PySem.intKind prog w) [] ∧ (cd == sysModules) = false
  held : HeldIn nn kvs tab fx
  q4 : qs.length ≤ 4
  qr : ∀ q ∈ qs, 0 ≤ q ∧ q ≤ 3
  self : ∀ p ∈ kvs, PySem.valueAt kvs p.1 = some p.2
section
variable {prog : Program} {w : World} {q hv : Addr} {oq oh : Obj} {ys : List Value} {qs : List Int} {Frm Tab Cm cd : Addr} {nn : Int} {kvs : List (Int × Value)} {tab : Int → Option (List Int)} {fx fx' : List (Addr × Obj)}
theorem LawMem.mono (H : LawMem prog w q hv oq oh ys qs Frm Tab Cm cd nn kvs tab fx) (k : ∀ p ∈ fx, p ∈ fx') : LawMem prog w q hv oq oh ys qs Frm Tab Cm cd nn kvs tab fx' where
  mq := k _ H.mq
  mh := k _ H.mh
  iq := H.iq
  ih := H.ih
  lq := H.lq
  lh := H.lh
  comps := k _ H.comps
  rows := H.rows.mono k
  frm := by obtain ⟨a, b, c, d, e, f⟩ := H.frm; exact ⟨a, b, c, k _ d, k _ e, f⟩
  tabs := by obtain ⟨a, b, c, d, e, f⟩ := H.tabs; exact ⟨a, b, c, k _ d, k _ e, f⟩
  codes := by obtain ⟨a, b, c⟩ := H.codes; exact ⟨a, k _ b, c⟩
  held := H.held.mono k
  q4 := H.q4
  qr := H.qr
  self := H.self
theorem LawMem.of_fix {D cA : Addr} {cO oD : Obj} (H : LawFix prog w D q hv cA cO ys qs Frm Tab Cm cd fx) (iq : oq.IsDictOf (PySem.intKind prog w) kvs) (ih : oh.IsDictOf (PySem.intKind prog w) kvs) (lq : (q == sysModules) = false) (lh : (hv == sysModules) = false) (hH : HeldIn nn kvs tab fx)
    (q4 : qs.length ≤ 4) (qr : ∀ q ∈ qs, 0 ≤ q ∧ q ≤ 3) (self : ∀ p ∈ kvs, PySem.valueAt kvs p.1 = some p.2) : LawMem prog w q hv oq oh ys qs Frm Tab Cm cd nn kvs tab ((D, oD) :: (q, oq) :: (hv, oh) :: fx) := by
  have k : ∀ p ∈ fx, p ∈ (D, oD) :: (q, oq) :: (hv, oh) :: fx := fun p hp => .tail _ (.tail _ (.tail _ hp))
  exact { mq := .tail _ (.head _), mh := .tail _ (.tail _ (.head _)), iq := iq, ih := ih, lq := lq, lh := lh, comps := k _ H.comps, rows := H.rows.mono k,
          frm := by obtain ⟨a, b, c, d, e, f⟩ := H.frm; exact ⟨a, b, c, k _ d, k _ e, f⟩,
          tabs := by obtain ⟨a, b, c, d, e, f⟩ := H.tab; exact ⟨a, b, c, k _ d, k _ e, f⟩,
          codes := by obtain ⟨a, b, c⟩ := H.codes; exact ⟨a, k _ b, c⟩, held := hH.mono k, q4 := q4, qr := qr, self := self }
theorem LawMem.heldAt {h₀ h : Heap} {L : Addr} (H : LawMem prog w q hv oq oh ys qs Frm Tab Cm cd nn kvs tab fx) (N : News h₀ L h fx) (h1 : 4 ≤ nn) (h2 : nn ≤ 16) {a : Addr} {o : Obj} (ma : (a, o) ∈ fx) (ia : o.IsDictOf (PySem.intKind prog w) kvs) (la : (a == sysModules) = false) : Held prog w h a kvs tab where
  lo := la
  dict := Heap.dictOf_iff.mpr ⟨o, (N _ ma).1, ia⟩
  no := H.held.no
  yes := fun k ns e => by
    obtain ⟨T, us, oT, q1, q2, q3, q4, q5, q6⟩ := H.held.yes k ns e
    refine ⟨T, us, q1, q3 _ (N _ q2).1, q4, fun e => ?_, by omega, q6⟩
    subst e
    simp at q5
    omega
theorem RowsMem.mono {slots : List Int} {xs : List Value} (H : RowsMem kvs tab slots xs fx) (k : ∀ p ∈ fx, p ∈ fx') : RowsMem kvs tab slots xs fx' :=
  ⟨H.len, fun i j e => by obtain ⟨Ti, t, wt, v, ns, h1, h2, h3, h4⟩ := H.row i j e; exact ⟨Ti, t, wt, v, ns, h1, h2, h3, k _ h4⟩⟩
end
def DueAs (kvs : List (Int × Value)) (tab : Int → Option (List Int)) (slots : List Int) (due rows : Value) (fx : List (Addr × Obj)) : Prop :=
  (∃ t, due = .str (Str.ofString "table") t ∧ ∃ k ∈ slots, tab k = none) ∨
  (∃ t, due = .str (Str.ofString "segment") t ∧ (∀ k ∈ slots, tab k ≠ none) ∧ ∃ k ∈ slots, ∃ ns, tab k = some ns ∧ badOf ns = true) ∨
  ∃ t R xs c, due = .bytes (byteArr (encs tab slots)) t ∧ rows = .ref R ∧ (R, listOf (List.toArray xs) c) ∈ fx ∧ RowsMem kvs tab slots xs fx ∧ ∀ k ∈ slots, ∃ ns, tab k = some ns ∧ badOf ns = false
theorem DueAs.mono {kvs : List (Int × Value)} {tab : Int → Option (List Int)} {slots : List Int} {due rows : Value} {fx fx' : List (Addr × Obj)} (H : DueAs kvs tab slots due rows fx) (k : ∀ p ∈ fx, p ∈ fx') : DueAs kvs tab slots due rows fx' := by
  rcases H with h | h | ⟨t, R, xs, c, h1, h2, h3, h4, h5⟩
  · exact .inl h
  · exact .inr (.inl h)
  · exact .inr (.inr ⟨t, R, xs, c, h1, h2, k _ h3, h4.mono k, h5⟩)

end
theorem off_lawmem : True := by
  k_with "off_lawmem" => skip
  trivial


theorem fresh_lawdue {prog : Program} {w : World} {A : Around} {E : Value → Shared → Prop} {s : Shared} {env : Env} {Q : Flow → Shared → Prop} (h : Q .next s) : wpAny (model prog w) A (execs [] env) Q E s := by
  w_top off
  first | (walk1; done) | (walk1; exact h) | exact wpAny_execs_nil h
section
theorem word_w68 : True := by
  k_with "call type:set" => ((fail_if_success k_extra "off_lawdue"); k_here; (with_reducible show wpAny _ _ (call (Value.type _) [Value.ref _]) _ _ _); k_dflt (refine' call_set_N ?h ?F ?N ?l ?i ?r ?_; (case h => with_unfolding_all rfl); (case F => k_asm); (case N => k_asm); (case l => exact News.isList (by k_asm) (by k_mem)); (case i => assumption); (case r => assumption); k_whole); intro S' ep' l' h' tk' F' N' l1 sm' ks'; (try k_lt l1); (first | (revert S' ep' l' h' tk' F' N' l1 sm' ks'; intros) | (revert S' ep' l' h' tk' F' N' sm' ks'; intros) | (revert S' ep' l' h' tk' F' N' sm' ks'; intros)); (try k_sweep))
  trivial
theorem word_w69 : True := by
  k_with "call builtin:sorted" => ((fail_if_success k_extra "off_lawdue"); k_here; (with_reducible show wpAny _ _ (call (Value.builtin _) [Value.ref _]) _ _ _); k_dflt (refine' sorted_setL ?h ?F ?N ?S ?m ?_; (case h => with_unfolding_all rfl); (case F => k_asm); (case N => k_asm); (case S => exact News.get (by k_asm) (by k_mem)); (case m => assumption); k_whole); intro D' v' c' h' tk' F' N' l1 iv'; (try k_lt l1); (first | (revert D' v' c' h' tk' F' N' l1 iv'; intros) | (revert D' v' c' h' tk' F' N' iv'; intros) | (revert D' v' c' h' tk' F' N' iv'; intros)); (try k_sweep))
  trivial
theorem word_w70 : True := by
  k_with "eval ListComp" => ((fail_if_success k_extra "off_lawdue"); refine stop_of ?_)
  trivial
theorem word_w71 : True := by
  k_with "CompSrc" => ((fail_if_success k_extra "off_lawdue"); refine stop_of ?_)
  trivial
theorem word_w72 : True := by
  k_with "CompEnd" => ((fail_if_success k_extra "off_lawdue"); refine stop_of ?_)
  trivial
section
variable {prog : Program} {w : World} {p : Program} {loose : List Str} {mean : ExcName → Option Value} {mg mb : Str → Option Value} {dp un : Nat} {gd : Option (List Code)} {fa : Addr} {ccd : Value} {A₀ : Around} {base h₀ : Heap} {L : Addr} {s : Shared} {Q : Flow → Shared → Prop}
set_option maxHeartbeats 8000000 in
theorem law_due {q hv cA Frm Tab Cm cd : Addr} {oq oh : Obj} {ys : List Value} {qs : List Int} {kvs : List (Int × Value)} {tab : Int → Option (List Int)} {fx : List (Addr × Obj)} {m0 : Str → Option Value} {os : Option Value} {nn nv : Int} {tn : Tok} :
    ∀ (d : DefRec) (kwd : List (Str × PySem.Expr)), defOf hd.view_39 (Str.ofString "law") = some (d, kwd) → ∀ (B : Below A₀ base [] h₀) (X : (hd.heap_1 w.params).In h₀) (T : Top p loose mean mg mb h₀)
    (F : Fr h₀ L s.heap (fun z => if z = Str.ofString "slot" then os else if z = Str.ofString "frame" then some (.ref Frm) else if z = Str.ofString "tables" then some (.ref Tab) else if z = Str.ofString "held" then some (.ref hv) else if z = Str.ofString "components" then some (.ref Cm) else if z = Str.ofString "n" then some (.int nv tn) else m0 z))
    (N : News h₀ L s.heap fx) (hM : LawMem prog w q hv oq oh ys qs Frm Tab Cm cd nn kvs tab fx) (hnn1 : 4 ≤ nn) (hnn2 : nn ≤ 16) (hdp : dp + 60 < recursionLimit) (hun : un + 300 < cLine)
    (done : ∀ h tk due rows fx', Fr h₀ L h (fun z => if z = Str.ofString "rows" then some rows else if z = Str.ofString "due" then some due else if z = Str.ofString "slot" then os else if z = Str.ofString "frame" then some (.ref Frm) else if z = Str.ofString "tables" then some (.ref Tab) else if z = Str.ofString "held" then some (.ref hv) else if z = Str.ofString "components" then some (.ref Cm) else if z = Str.ofString "n" then some (.int nv tn) else m0 z) →
      News h₀ L h fx' → LawMem prog w q hv oq oh ys qs Frm Tab Cm cd nn kvs tab fx' → DueAs kvs tab (slotsOf qs) due rows fx' →
      wpC (model prog w) (ktrTop dp un gd (Str.ofString "law") d.scope L fa ccd [(Str.ofString "source", cA)] []) (execs (d.body.drop 6) (envX (Str.ofString "law") d.scope L fa ccd [(Str.ofString "source", cA)])) Q (fun _ _ => False) { s with heap := h, toks := tk }),
    wpC (model prog w) (ktrTop dp un gd (Str.ofString "law") d.scope L fa ccd [(Str.ofString "source", cA)] []) (execs (d.body.drop 5) (envX (Str.ofString "law") d.scope L fa ccd [(Str.ofString "source", cA)])) Q (fun _ _ => False) s := by
  refine tail_of (by rfl) ?_
  dsimp only [List.drop]
  intro B X T F N hM hnn1 hnn2 hdp hun done
  refine execsC_A ?_
  k_steps
  unfold Stop
  k_dflt (refine LCg.ListComp_U (F₀ := by k_asm) (by rfl) (by decide) (by rfl) (by decide) (by rfl) ?_)
  k_steps
  unfold Stop
  have hmC := hM.comps
  have hq4 := hM.q4
  have hqr := hM.qr
  have hsz : ys.toArray.size = qs.length := by rw [List.size_toArray]; exact hM.rows.len
  refine LCg.CompSrc.ledger rfl ‹Fr _ _ _ _› ‹News _ _ _ _› hmC (by rw [hsz, sizeLine_eq]; omega) fun g => ?_
  refine compRest_ind (n := ys.toArray.size) (QkInv fx qs) ?_ ?_ _ 0 [] _ (Nat.zero_add _) ⟨.nil, rfl⟩
  · rintro i zs nw hi ⟨hv', rfl⟩ v I oI C oC D m₂ h tk E' hP hC hx F9 N9 off n1 n2 n3
    obtain ⟨qi, hqi⟩ : ∃ q, qs[i]? = some q := ⟨_, List.getElem?_eq_getElem (by omega)⟩
    obtain ⟨ci, di, es, n, t, hx1, hI1, hI2, hg⟩ := hM.rows.row i qi hqi
    have hv2 : v = .ref ci := by simp only [List.getElem?_toArray] at hP; rw [hx1] at hP; exact (Option.some.inj hP).symm
    subst hv2
    clear F N done
    have off0 := off
    k_steps
    unfold Stop
    exact ⟨_, _, _, rfl, F9, N9, off0, .inr ⟨_, hmC, rfl, _, rfl⟩, ints_next hv' hqi, rfl⟩
  · rintro zs nw ⟨hv', rfl⟩
    rw [hsz, List.take_length] at hv'
    k_steps
    rename_i D1 h1 tk1 o1 S1 ep1 l1 h2 tk2 sm1 ks1 lt1 Ds vs c2 h3 tk3 F5 N5 iv2 lt2
    rw [ks1] at iv2
    have hH := hM.heldAt (fun p hp => N5 p (.tail _ (.tail _ (.tail _ hp)))) hnn1 hnn2 hM.mh hM.ih hM.lh
    have hsr : ∀ k ∈ slotsOf qs, 0 ≤ k ∧ k ≤ 3 := fun k hk => hqr k (slotsOf_mem.mp hk)
    k_dflt (refine' laid_spec ?B ?F ?X ?T ?hk ?hl ?iL ?hsl ?hr ?H ?hdp ?hun ?retT ?retS ?retO; (case B => assumption); (case F => k_asm); (case X => k_asm); (case T => k_asm); (case hk => exact rfl); (case hl => exact News.isList (by k_asm) (by k_mem)); (case iL => assumption); (case hsl => exact slotsOf_len hqr); (case hr => exact hsr); (case H => exact hH); (case hdp => ktr_room); (case hun => ktr_units))
    · intro U t h' tk' hT kp md
      (obtain ⟨F', N', l3⟩ := made_both (by k_asm) (by k_asm) kp md)
      (try dsimp only [List.cons_append, List.nil_append] at N')
      clear l3
      k_steps
      have N9 := ‹News _ _ _ _›
      exact done _ _ _ _ _ (by assumption) N9 (hM.mono fun p hp => by simp [hp]) (.inl ⟨_, rfl, hT⟩)
    · intro U t h' tk' hT hS kp md
      (obtain ⟨F', N', l3⟩ := made_both (by k_asm) (by k_asm) kp md)
      (try dsimp only [List.cons_append, List.nil_append] at N')
      clear l3
      k_steps
      have N9 := ‹News _ _ _ _›
      exact done _ _ _ _ _ (by assumption) N9 (hM.mono fun p hp => by simp [hp]) (.inr (.inl ⟨_, rfl, hT, hS⟩))
    · intro U t R xs c tups h' tk' hG kp md hR
      (obtain ⟨F', N', l3⟩ := made_both (by k_asm) (by k_asm) kp md)
      (try dsimp only [List.cons_append, List.nil_append] at N')
      clear l3
      k_steps
      have N9 := ‹News _ _ _ _›
      exact done _ _ _ _ _ (by assumption) N9 (hM.mono fun p hp => by simp [hp]) (.inr (.inr ⟨_, R, xs, c, rfl, rfl, by simp, hR.mono fun p hp => by simp [hp], hG⟩))
end

end
theorem off_lawdue : True := by
  k_with "off_lawdue" => skip
  trivial


theorem fresh_eqs {prog : Program} {w : World} {A : Around} {E : Value → Shared → Prop} {s : Shared} {env : Env} {Q : Flow → Shared → Prop} (h : Q .next s) : wpAny (model prog w) A (execs [] env) Q E s := by
  w_top off
  first | (walk1; done) | (walk1; exact h) | exact wpAny_execs_nil h
section
/-! comparisons of the law's end -/
section
variable {prog : Program} {w : World} {A : Around} {E : Value → Shared → Prop} {s : Shared}
theorem eqAt_bytes {b c : Array UInt8} {t u : Tok} : SeqAt.EqAt A s (.bytes b t) (.bytes c u) (decide (b.toList = c.toList)) := fun _ _ _ _ h => PySem.W.eqBool_bytes h
theorem eqAt_bytes_same {b : Array UInt8} {t u : Tok} : SeqAt.EqAt A s (.bytes b t) (.bytes b u) true := by
  have h := eqAt_bytes (A := A) (s := s) (b := b) (c := b) (t := t) (u := u)
  rwa [decide_eq_true rfl] at h
theorem str_bytes_0 (a : Str) (t : Tok) (b : Array UInt8) (u : Tok) : Gives (Builtin.«str.__eq__» ⟨[.str a t, .bytes b u], []⟩) (.val (Value.notImplemented)) :=
  .of_wp fun M A E s Q h => by obtain ⟨hp, g, d, tk, os⟩ := s; wp_walk; exact ⟨_, rfl, h⟩
theorem bytes_str_0 (a : Str) (t : Tok) (b : Array UInt8) (u : Tok) : Gives (Builtin.«bytes.__eq__» ⟨[.bytes b u, .str a t], []⟩) (.val (Value.notImplemented)) := by
  refine .of_wp fun M A E s Q hq => ?_
  show wpAny M A (isInstance (.str a t) (.type "bytes") >>= fun r => _) _ E s
  refine wpAny_bind (wpAny_isInstance (typeIs_str s a t) F.sub_str_bytes ?_)
  refine wpAny_bind (wpAny_isInstance (typeIs_str s a t) F.sub_str_bytes ?_)
  rw [if_pos (show (!false) = true from rfl)]
  exact wpAny_bind (wpAny_rule (wpAny_pure (by exact ⟨_, rfl, hq⟩)))
theorem eqAt_str_bytes (a : Str) (t : Tok) (b : Array UInt8) (u : Tok) : SeqAt.EqAt A s (.str a t) (.bytes b u) false := fun prog w E Q h => by
  unfold eqBool
  refine wpAny_holding ?_
  refine wpAny_ite_split (fun hab => absurd (eq_of_beq hab) nofun) (fun _ => ?_)
  refine wpAny_bind (SeqAt.rc_eq_decline_or (k := false) (typeIs_str s a t) (PySem.W.typeIs_bytes s b u) (by decide) F.sub_bytes_str F.slot_str_eq PySem.W.FB.slot_bytes_eq
    (fun _ hq => call_gives F.slot_str_eq (typeIs_str s a t) F.entry_str_eq (F.args_str_eq_2 _ _) (str_bytes_0 a t b u) hq)
    (fun _ hq => call_gives PySem.W.FB.slot_bytes_eq (PySem.W.typeIs_bytes s b u) PySem.W.FB.entry_bytes_eq (PySem.W.FB.args_bytes_eq_2 _ _) (bytes_str_0 a t b u) hq)
    (fun _ hq => wpAny_of_eq (rfl : isSame (.str a t) (.bytes b u) = pure false) hq) (.inl rfl) (wpAny_truthy_bool h))
theorem eqAt_int_same (a : Int) (t u : Tok) : SeqAt.EqAt A s (.int a t) (.int a u) true := by
  have h := SeqAt.EqAt.int_int (A := A) (s := s) a t a u
  simpa using h
theorem hits_self {kb : List (Int × Value)} : ∀ {l : List (Int × Value)}, (∀ p ∈ l, PySem.valueAt kb p.1 = some p.2) → KeqHits A s kb l true
  | [], _ => .nil
  | (k, v) :: r, h => KeqHits.hit (e := true) (b := true) (h (k, v) (.head _)) (SeqAt.EqAt.same v) (hits_self fun p hp => h p (.tail _ hp))
section
variable {h₀ : Heap} {L q hv : Addr} {oq oh : Obj} {fx : List (Addr × Obj)} {kvs : List (Int × Value)} {Q : Value → Shared → Prop}
theorem dict_eq (N : News h₀ L s.heap fx) (mq : (q, oq) ∈ fx) (mh : (hv, oh) ∈ fx) (iq : oq.IsDictOf (PySem.intKind prog w) kvs) (ih : oh.IsDictOf (PySem.intKind prog w) kvs) (lq : (q == sysModules) = false) (lh : (hv == sysModules) = false) (self : ∀ p ∈ kvs, PySem.valueAt kvs p.1 = some p.2) (hu : A.units < cLine)
    (h : Q (.bool true) s) : wpAny (model prog w) A (compareOp .Eq (.ref q) (.ref hv)) Q E s := by
  refine keq_eq (knd := PySem.intKind prog w) (r := true) lq lh (Heap.dictOf_iff.mpr ⟨oq, (N _ mq).1, iq⟩) (Heap.dictOf_iff.mpr ⟨oh, (N _ mh).1, ih⟩) hu (fun _ => hits_self self) ?_
  rw [beq_self_eq_true, Bool.and_true]; exact h
theorem dict_ne (N : News h₀ L s.heap fx) (mq : (q, oq) ∈ fx) (mh : (hv, oh) ∈ fx) (iq : oq.IsDictOf (PySem.intKind prog w) kvs) (ih : oh.IsDictOf (PySem.intKind prog w) kvs) (lq : (q == sysModules) = false) (lh : (hv == sysModules) = false) (self : ∀ p ∈ kvs, PySem.valueAt kvs p.1 = some p.2) (hu : A.units < cLine)
    (h : Q (.bool false) s) : wpAny (model prog w) A (compareOp .NotEq (.ref q) (.ref hv)) Q E s := by
  refine keq_ne (knd := PySem.intKind prog w) (r := true) lq lh (Heap.dictOf_iff.mpr ⟨oq, (N _ mq).1, iq⟩) (Heap.dictOf_iff.mpr ⟨oh, (N _ mh).1, ih⟩) hu (fun _ => hits_self self) ?_
  rw [beq_self_eq_true, Bool.and_true]; exact h
/-- a bytes is in no written list of two strs -/
theorem bytes_in_strs {l : Addr} {a b : Str} {ta tb : Tok} {n : Nat} {x : Array UInt8} {t : Tok} (N : News h₀ L s.heap fx) (hm : (l, listOf #[.str a ta, .str b tb] n) ∈ fx) (h : Q (.bool false) s) :
    wpAny (model prog w) A (compareOp .In (.bytes x t) (.ref l)) Q E s := by
  refine SeqAt.in_listAt (items := #[.str a ta, .str b tb]) (fun _ => false) (News.isList N hm) (fun y hy => ?_) (by simpa using h)
  simp only [List.mem_toArray, List.mem_cons, List.not_mem_nil, or_false] at hy
  rcases hy with rfl | rfl <;> exact eqAt_str_bytes _ _ _ _
/-- the piece's triple and the one that is due -/
theorem triple_ne {T U : Addr} {a : Int} {t1 u1 t2 u2 t3 u3 : Tok} {x y : Array UInt8} (N : News h₀ L s.heap fx) (hm : (T, tupObj #[.int a t1, .bytes x t2, .bytes y t3]) ∈ fx) (hm' : (U, tupObj #[.int a u1, .bytes x u2, .bytes y u3]) ∈ fx) (hu : A.units < cLine) (h : Q (.bool false) s) :
    wpAny (model prog w) A (compareOp .NotEq (.ref T) (.ref U)) Q E s := by
  refine SeqAt.RcNeAt.tuples (e := fun _ => true) (News.isTup N hm) (News.isTup N hm') hu (fun j h1 h2 => ?_) prog w E Q (by first | exact h | (with_unfolding_all exact h))
  match j, h1, h2 with
  | 0, _, _ => exact eqAt_int_same _ _ _
  | 1, _, _ => exact eqAt_bytes_same
  | 2, _, _ => exact eqAt_bytes_same
  | k + 3, h1, _ => exact absurd h1 (by simp)
end
end

end
theorem off_eqs : True := by
  k_with "off_eqs" => skip
  trivial


theorem fresh_lawtry {prog : Program} {w : World} {A : Around} {E : Value → Shared → Prop} {s : Shared} {env : Env} {Q : Flow → Shared → Prop} (h : Q .next s) : wpAny (model prog w) A (execs [] env) Q E s := by
  w_top off
  first | (walk1; done) | (walk1; exact h) | exact wpAny_execs_nil h
section
theorem LawMem.compsAt {prog : Program} {w : World} {q hv : Addr} {oq oh : Obj} {ys : List Value} {qs : List Int} {Frm Tab Cm cd : Addr} {nn : Int} {kvs : List (Int × Value)} {tab : Int → Option (List Int)} {fx : List (Addr × Obj)} {h₀ h : Heap} {L : Addr}
    (H : LawMem prog w q hv oq oh ys qs Frm Tab Cm cd nn kvs tab fx) (N : News h₀ L h fx) : CompsAt h Cm ys qs where
  list := News.isList N H.comps
  len := H.rows.len
  row := fun i k e => by
    obtain ⟨ci, d, es, n, t, h1, h2, h3, h4⟩ := H.rows.row i k e
    exact ⟨ci, _, es, n, t, h1, InstAt.of_news N h2 h3, h4⟩
section
variable {prog : Program} {w : World} {p : Program} {loose : List Str} {mean : ExcName → Option Value} {mg mb : Str → Option Value} {dp un : Nat} {gd : Option (List Code)} {fa : Addr} {ccd : Value} {A₀ : Around} {base h₀ : Heap} {L : Addr} {s : Shared} {Q : Flow → Shared → Prop}
set_option maxHeartbeats 8000000 in
theorem law_try {q hv cA Frm Tab Cm cd : Addr} {oq oh : Obj} {ys : List Value} {qs : List Int} {kvs : List (Int × Value)} {tab : Int → Option (List Int)} {fx : List (Addr × Obj)} {m0 : Str → Option Value} {os : Option Value} {due rows : Value} {nn nv : Int} {tn : Tok} :
    ∀ (d : DefRec) (kwd : List (Str × PySem.Expr)), defOf hd.view_39 (Str.ofString "law") = some (d, kwd) → ∀ (B : Below A₀ base [] h₀) (X : (hd.heap_1 w.params).In h₀) (T : Top p loose mean mg mb h₀)
    (F : Fr h₀ L s.heap (fun z => if z = Str.ofString "rows" then some rows else if z = Str.ofString "due" then some due else if z = Str.ofString "slot" then os else if z = Str.ofString "frame" then some (.ref Frm) else if z = Str.ofString "tables" then some (.ref Tab) else if z = Str.ofString "held" then some (.ref hv) else if z = Str.ofString "components" then some (.ref Cm) else if z = Str.ofString "n" then some (.int nv tn) else m0 z))
    (N : News h₀ L s.heap fx) (hM : LawMem prog w q hv oq oh ys qs Frm Tab Cm cd nn kvs tab fx) (hD : DueAs kvs tab (slotsOf qs) due rows fx) (hnn1 : 4 ≤ nn) (hnn2 : nn ≤ 16) (hdp : dp + 60 < recursionLimit) (hun : un + 300 < cLine)
    (fin : ∀ h' tk' m', Fr h₀ L h' m' → Q (.ret (.bool true)) { s with heap := h', toks := tk' })
    (done : ∀ h tk Px dP es n t1 t2 t3 t R xs c fx', Fr h₀ L h (fun z => if z = Str.ofString "piece" then some (.ref Px) else if z = Str.ofString "rows" then some (.ref R) else if z = Str.ofString "due" then some (.bytes (byteArr (encs tab (slotsOf qs))) t) else if z = Str.ofString "slot" then os else if z = Str.ofString "frame" then some (.ref Frm) else if z = Str.ofString "tables" then some (.ref Tab) else if z = Str.ofString "held" then some (.ref hv) else if z = Str.ofString "components" then some (.ref Cm) else if z = Str.ofString "n" then some (.int nv tn) else m0 z) →
      News h₀ L h fx' → LawMem prog w q hv oq oh ys qs Frm Tab Cm cd nn kvs tab fx' → (Px, instObj 39 dP) ∈ fx' → (dP, dictOf es n) ∈ fx' → getL (Str.ofString "code") es = some (some (.int 219 t1)) → getL (Str.ofString "payload") es = some (some (.bytes (byteArr (encs tab (slotsOf qs))) t2)) → getL (Str.ofString "data") es = some (some (.bytes #[] t3)) →
      (R, listOf (List.toArray xs) c) ∈ fx' → RowsMem kvs tab (slotsOf qs) xs fx' → (∀ k ∈ slotsOf qs, ∃ ns, tab k = some ns ∧ badOf ns = false) →
      wpC (model prog w) (ktrTop dp un gd (Str.ofString "law") d.scope L fa ccd [(Str.ofString "source", cA)] []) (execs (d.body.drop 7) (envX (Str.ofString "law") d.scope L fa ccd [(Str.ofString "source", cA)])) Q (fun _ _ => False) { s with heap := h, toks := tk }),
    wpC (model prog w) (ktrTop dp un gd (Str.ofString "law") d.scope L fa ccd [(Str.ofString "source", cA)] []) (execs (d.body.drop 6) (envX (Str.ofString "law") d.scope L fa ccd [(Str.ofString "source", cA)])) Q (fun _ _ => False) s := by
  refine tail_of (by rfl) ?_
  dsimp only [List.drop]
  intro B X T F N hM hD hnn1 hnn2 hdp hun fin done
  refine execsC (execC_Try (execsC_last (execC_Assign (evalC_Call_ofName ?_))))
  k_steps
  refine callWithC_of (keeps_K (K := hd.heap_1 w.params) (by k_dflt k_is)) (splicedC_more (wpC_of ?_))
  k_steps
  refine splicedC_more (wpC_of ?_)
  k_steps
  refine splicedC_nil ⟨X.keeps (Fr.keep (by assumption)), ?_⟩
  dsimp only [List.nil_append]
  obtain ⟨dF, esF, nF, mf1, mf2, gf⟩ := hM.frm
  obtain ⟨dT, esT, nT, mt1, mt2, gt1, gt2, gt3⟩ := hM.tabs
  have hHq := hM.heldAt N hnn1 hnn2 hM.mq hM.iq hM.lq
  k_dflt (refine' quantPiece_spec ?B ?F ?X ?T ?hk ?IF ?hcm ?HC ?hq4 ?hqr ?IT ?hq ?H ?hqo ?hdp ?hun ?ret ?excT ?excS; (case B => assumption); (case F => k_asm); (case X => k_asm); (case T => k_asm); (case hk => exact rfl); (case IF => exact InstAt.of_news N mf1 mf2); (case hcm => exact gf); (case HC => exact hM.compsAt N); (case hq4 => exact hM.q4); (case hqr => exact hM.qr); (case IT => exact InstAt.of_news N mt1 mt2); (case hq => exact gt1); (case H => exact hHq); (case hqo => exact gt3); (case hdp => ktr_room); (case hun => ktr_units))
  · intro Px dP es n t1 t2 t3 h' tk' good kp md g1 g2 g3
    have hD3 : ∃ t R xs c, due = .bytes (byteArr (encs tab (slotsOf qs))) t ∧ rows = .ref R ∧ (R, listOf (List.toArray xs) c) ∈ fx ∧ RowsMem kvs tab (slotsOf qs) xs fx := by
      rcases hD with ⟨_, _, k, hk, e⟩ | ⟨_, _, _, k, hk, ns, e1, e2⟩ | ⟨t, R, xs, c, e1, e2, e3, e4, _⟩
      · obtain ⟨ns, q1, _⟩ := good k hk
        rw [e] at q1; cases q1
      · obtain ⟨ns', q1, q2⟩ := good k hk
        rw [e1] at q1; cases q1
        rw [e2] at q2; cases q2
      · exact ⟨t, R, xs, c, e1, e2, e3, e4⟩
    obtain ⟨t, R, xs, c, rfl, rfl, mR, hR⟩ := hD3
    (obtain ⟨F', N', l3⟩ := made_both (by k_asm) (by k_asm) kp md)
    (try dsimp only [List.cons_append, List.nil_append] at N')
    clear l3
    k_steps
    have N9 := ‹News _ _ _ _›
    exact done _ _ _ _ _ _ _ _ _ _ _ _ _ _ (by assumption) N9 (hM.mono fun p hp => by simp [hp]) (.head _) (.tail _ (.head _)) g1 g2 g3 (.tail _ (.tail _ mR)) (hR.mono fun p hp => by simp [hp]) good
  · intro hT e h' tk' fl
    have hD1 : ∃ t, due = .str (Str.ofString "table") t := by
      obtain ⟨k, hk, e⟩ := hT
      rcases hD with ⟨t, q, _⟩ | ⟨_, _, q, _⟩ | ⟨_, _, _, _, _, _, _, _, q⟩
      · exact ⟨t, q⟩
      · exact absurd e (q k hk)
      · obtain ⟨ns, q1, _⟩ := q k hk
        rw [e] at q1; cases q1
    obtain ⟨t, rfl⟩ := hD1
    refine caught_look rfl fl fun h2 fl2 => ?_
    refine caught_hit (C' := 85) F N X T fl2 ?ex ?he (fun h3 F3 N3 => ?_) rfl rfl rfl (by passes_own)
    case ex => k_dflt k_is
    case he => kts_exm
    clear F N
    k_steps
    refine dict_eq ‹News _ _ _ _› hM.mq hM.mh hM.iq hM.ih hM.lq hM.lh hM.self ?_ ?_
    · show un < cLine; omega
    · k_steps
      exact fin _ _ _ (by assumption)
  · intro hG hS e h' tk' fl
    have hD2 : ∃ t, due = .str (Str.ofString "segment") t := by
      obtain ⟨k, hk, ns, e1, e2⟩ := hS
      rcases hD with ⟨_, _, k', hk', q⟩ | ⟨t, q, _⟩ | ⟨_, _, _, _, _, _, _, _, q⟩
      · obtain ⟨ns', q1⟩ := hG k' hk'
        rw [q] at q1; cases q1
      · exact ⟨t, q⟩
      · obtain ⟨ns', q1, q2⟩ := q k hk
        rw [e1] at q1; cases q1
        rw [e2] at q2; cases q2
    obtain ⟨t, rfl⟩ := hD2
    refine caught_look rfl fl fun h2 fl2 => ?_
    refine caught_pass (C' := 85) F X T fl2 ?ex1 ?he1 ?_ rfl rfl rfl
    case ex1 => k_dflt k_is
    case he1 => kts_exm
    refine caught_hit (C' := 73) F N X T fl2 ?ex ?he (fun h3 F3 N3 => ?_) rfl rfl rfl (by passes_own)
    case ex => k_dflt k_is
    case he => kts_exm
    clear F N
    k_steps
    refine dict_eq ‹News _ _ _ _› hM.mq hM.mh hM.iq hM.ih hM.lq hM.lh hM.self ?_ ?_
    · show un < cLine; omega
    · k_steps
      exact fin _ _ _ (by assumption)
end

end
theorem off_lawtry : True := by
  k_with "off_lawtry" => skip
  trivial


theorem fresh_rowsne {prog : Program} {w : World} {A : Around} {E : Value → Shared → Prop} {s : Shared} {env : Env} {Q : Flow → Shared → Prop} (h : Q .next s) : wpAny (model prog w) A (execs [] env) Q E s := by
  w_top off
  first | (walk1; done) | (walk1; exact h) | exact wpAny_execs_nil h
section
/-! the rows that were read and the rows that are due: two lists of triples -/
def rowData (r : Int × List Int) : PyData := .tuple [.int r.1, .int (wideInt r.2), .tuple (r.2.map PyData.int)]
def RowsAt (h : Heap) (rs : List (Int × List Int)) (xs : List Value) : Prop :=
  ∀ (i : Nat) k ns, rs[i]? = some (k, ns) → ∃ Ti t wt Tn us, xs[i]? = some (.ref Ti) ∧ IsTup h Ti #[.int k t, .int (wideInt ns) wt, .ref Tn] ∧ IsTup h Tn us.toArray ∧ IntsAre us ns
theorem reads_ints {h : Heap} : ∀ {vs : List Value} {ns : List Int}, IntsAre vs ns → ∃ as, ReadsAll h vs (ns.map PyData.int) as
  | _, _, .nil => ⟨_, ReadsAll.nil⟩
  | _, _, .cons _ t r => by obtain ⟨as, q⟩ := reads_ints (h := h) r; exact ⟨_, ReadsAll.cons (Reads.int _ t) q⟩
theorem reads_tup {h : Heap} {T : Addr} {vs : List Value} {ds : List PyData} {as : List Addr} (ht : IsTup h T vs.toArray) (r : ReadsAll h vs ds as) : ∃ as, Reads h (.ref T) (.tuple ds) as := by
  obtain ⟨o, ho, hc, n, hd⟩ := ht
  exact ⟨_, reads_tuple_at ho hc hd (by simpa using r)⟩
theorem reads_row {h : Heap} {Ti Tn : Addr} {k : Int} {t wt : Tok} {us : List Value} {ns : List Int} (h1 : IsTup h Ti #[.int k t, .int (wideInt ns) wt, .ref Tn]) (h2 : IsTup h Tn us.toArray) (h3 : IntsAre us ns) : ∃ as, Reads h (.ref Ti) (rowData (k, ns)) as := by
  obtain ⟨as, q⟩ := reads_ints (h := h) h3
  obtain ⟨bs, q2⟩ := reads_tup h2 q
  exact reads_tup (vs := [.int k t, .int (wideInt ns) wt, .ref Tn]) h1 (ReadsAll.cons (Reads.int _ _) (ReadsAll.cons (Reads.int _ _) (ReadsAll.cons q2 ReadsAll.nil)))
theorem reads_rows {h : Heap} : ∀ {rs : List (Int × List Int)} {xs : List Value}, xs.length = rs.length → RowsAt h rs xs → ∃ as, ReadsAll h xs (rs.map rowData) as
  | [], [], _, _ => ⟨_, ReadsAll.nil⟩
  | [], _ :: _, e, _ => nomatch e
  | _ :: _, [], e, _ => nomatch e
  | (k, ns) :: rs, x :: xs, e, H => by
    obtain ⟨Ti, t, wt, Tn, us, h1, h2, h3, h4⟩ := H 0 k ns rfl
    obtain rfl : x = .ref Ti := Option.some.inj h1
    obtain ⟨as, q⟩ := reads_row h2 h3 h4
    obtain ⟨bs, q2⟩ := reads_rows (rs := rs) (xs := xs) (Nat.succ.inj e) fun i k ns hi => H (i + 1) k ns hi
    exact ⟨_, ReadsAll.cons q q2⟩
theorem rows_lay : ∀ rs : List (Int × List Int), PyData.canLayAll0 (rs.map rowData) = true ∧ PyData.depthAll (rs.map rowData) ≤ 3
  | [] => by simp [PyData.canLayAll0, PyData.depthAll]
  | r :: rs => by
    obtain ⟨h1, h2⟩ := rows_lay rs
    have q : (rowData r).depth ≤ 3 := by simp [rowData, PyData.depth, PyData.depthAll, ke_depthAll]
    refine ⟨by simp [PyData.canLayAll0, h1, rowData, PyData.canLay0, ke_canLayAll0], ?_⟩
    simp only [List.map_cons, PyData.depthAll]
    omega
theorem rows_eqv : ∀ rs : List (Int × List Int), PyData.eqvAll (rs.map rowData) (rs.map rowData) = true
  | [] => by simp [PyData.eqvAll]
  | r :: rs => by
    have := rows_eqv rs
    simp only [List.map_cons, PyData.eqvAll, this, Bool.and_true]
    simp [rowData, PyData.eqv, PyData.eqvAll, ked_eqvAll]
section
variable {prog : Program} {w : World} {A : Around} {E : Value → Shared → Prop} {s : Shared} {a b : Addr} {xs ys : List Value} {rs : List (Int × List Int)} {Q : Value → Shared → Prop}
theorem rows_ne (ha : s.heap.IsList a xs.toArray) (hb : s.heap.IsList b ys.toArray) (la : xs.length = rs.length) (lb : ys.length = rs.length) (ra : RowsAt s.heap rs xs) (rb : RowsAt s.heap rs ys) (hu : A.units + 64 < cLine) (h : Q (.bool false) s) :
    wpAny (model prog w) A (compareOp .NotEq (.ref a) (.ref b)) Q E s := by
  obtain ⟨as, q1⟩ := reads_rows la ra
  obtain ⟨bs, q2⟩ := reads_rows lb rb
  obtain ⟨o, ho, hc, n, hd⟩ := ha
  obtain ⟨o', ho', hc', n', hd'⟩ := hb
  obtain ⟨l1, l2⟩ := rows_lay rs
  have hs : SeqAt.shaped (.list (rs.map rowData)) = true := by
    unfold SeqAt.shaped
    simp only [PyData.canLay0, PyData.depth, l1, Bool.true_and]
    exact decide_eq_true (by omega)
  refine ne_dataH (reads_list_at ho hc hd (by simpa using q1)) (reads_list_at ho' hc' hd' (by simpa using q2)) hs hs hu ?_
  simp only [PyData.eqv, rows_eqv, Bool.not_true]
  exact h
end

end
theorem off_rowsne : True := by
  k_with "off_rowsne" => skip
  trivial


theorem fresh_lawend {prog : Program} {w : World} {A : Around} {E : Value → Shared → Prop} {s : Shared} {env : Env} {Q : Flow → Shared → Prop} (h : Q .next s) : wpAny (model prog w) A (execs [] env) Q E s := by
  w_top off
  first | (walk1; done) | (walk1; exact h) | exact wpAny_execs_nil h
section
theorem word_w73 : True := by
  k_with "eval ListComp" => ((fail_if_success k_extra "off_lawend"); refine stop_of ?_)
  trivial
theorem word_w74 : True := by
  k_with "CompSrc" => ((fail_if_success k_extra "off_lawend"); refine stop_of ?_)
  trivial
theorem word_w75 : True := by
  k_with "CompEnd" => ((fail_if_success k_extra "off_lawend"); refine stop_of ?_)
  trivial
theorem word_w76 : True := by
  k_with "compareOp In bytes ref" => ((fail_if_success k_extra "off_lawend"); k_here; k_dflt (refine bytes_in_strs (by k_asm) (by k_mem) ?_))
  trivial
theorem word_w77 : True := by
  k_with "compareOp NotEq ref ref" => ((fail_if_success k_extra "off_lawend"); refine stop_of ?_)
  trivial
theorem word_w78 : True := by
  k_with "compareOp Eq ref ref" => ((fail_if_success k_extra "off_lawend"); refine stop_of ?_)
  trivial
def TkInv (nw0 : List (Addr × Obj)) (xs : List Value) (i : Nat) (ys : List Value) (nw : List (Addr × Obj)) : Prop := ys = xs.take i ∧ nw = nw0
theorem encs_rows (tab : Int → Option (List Int)) (slots : List Int) : encs tab slots = encR (slots.map fun k => (k, (tab k).getD [])) := by unfold encs encR; rw [List.flatMap_map]
theorem RowsRd.at {h₀ h : Heap} {L : Addr} {rs : List (Int × List Int)} {xr : List Value} {tups fx : List (Addr × Obj)} (H : RowsRd rs xr tups) (N : News h₀ L h fx) (k : ∀ p ∈ tups, p ∈ fx) : RowsAt h rs xr := fun i j ns e => by
  obtain ⟨Ti, t, wt, Tn, us, h1, h2, h3, h4⟩ := H.row i j ns e
  exact ⟨Ti, t, wt, Tn, us, h1, News.isTup N (k _ h2), News.isTup N (k _ h3), h4⟩
theorem LawMem.rowsAt {prog : Program} {w : World} {q hv : Addr} {oq oh : Obj} {ys xs : List Value} {qs : List Int} {Frm Tab Cm cd : Addr} {nn : Int} {kvs : List (Int × Value)} {tab : Int → Option (List Int)} {fx fx' : List (Addr × Obj)} {h₀ h : Heap} {L : Addr} {slots : List Int}
    (H : LawMem prog w q hv oq oh ys qs Frm Tab Cm cd nn kvs tab fx) (hR : RowsMem kvs tab slots xs fx) (N : News h₀ L h fx') (hk : ∀ p ∈ fx, p ∈ fx') : RowsAt h (slots.map fun k => (k, (tab k).getD [])) xs := fun i j ns e => by
  rw [List.getElem?_map] at e
  obtain ⟨k', hj', e⟩ := Option.map_eq_some_iff.mp e
  cases e
  obtain ⟨Ti, t, wt, v, ns, h1, h2, h3, h4⟩ := hR.row i _ hj'
  obtain ⟨T, us, oT, q1, q2, q3, q4, _⟩ := H.held.yes _ ns h2
  rw [q1] at h3
  cases h3
  rw [h2, Option.getD_some]
  exact ⟨Ti, t, wt, T, us, h1, News.isTup N (hk _ h4), q3 _ (N _ (hk _ q2)).1, q4⟩
section
variable {prog : Program} {w : World} {p : Program} {loose : List Str} {mean : ExcName → Option Value} {mg mb : Str → Option Value} {dp un : Nat} {gd : Option (List Code)} {fa : Addr} {ccd : Value} {A₀ : Around} {base h₀ : Heap} {L : Addr} {s : Shared} {Q : Flow → Shared → Prop}
set_option maxHeartbeats 8000000 in
theorem law_end {q hv cA Frm Tab Cm cd Px dP R : Addr} {oq oh : Obj} {ys xs : List Value} {qs : List Int} {kvs : List (Int × Value)} {tab : Int → Option (List Int)} {fx : List (Addr × Obj)} {m0 : Str → Option Value} {os : Option Value} {nv : Int} {tn t1 t2 t3 t : Tok} {es : List DictEntry} {n c : Nat} :
    ∀ (d : DefRec) (kwd : List (Str × PySem.Expr)), defOf hd.view_39 (Str.ofString "law") = some (d, kwd) → ∀ (B : Below A₀ base [] h₀) (X : (hd.heap_1 w.params).In h₀) (T : Top p loose mean mg mb h₀)
    (F : Fr h₀ L s.heap (fun z => if z = Str.ofString "piece" then some (.ref Px) else if z = Str.ofString "rows" then some (.ref R) else if z = Str.ofString "due" then some (.bytes (byteArr (encs tab (slotsOf qs))) t) else if z = Str.ofString "slot" then os else if z = Str.ofString "frame" then some (.ref Frm) else if z = Str.ofString "tables" then some (.ref Tab) else if z = Str.ofString "held" then some (.ref hv) else if z = Str.ofString "components" then some (.ref Cm) else if z = Str.ofString "n" then some (.int nv tn) else m0 z))
    (N : News h₀ L s.heap fx) (hM : LawMem prog w q hv oq oh ys qs Frm Tab Cm cd (nv * nv) kvs tab fx) (mP1 : (Px, instObj 39 dP) ∈ fx) (mP2 : (dP, dictOf es n) ∈ fx) (gP1 : getL (Str.ofString "code") es = some (some (.int 219 t1))) (gP2 : getL (Str.ofString "payload") es = some (some (.bytes (byteArr (encs tab (slotsOf qs))) t2))) (gP3 : getL (Str.ofString "data") es = some (some (.bytes #[] t3)))
    (mR : (R, listOf (List.toArray xs) c) ∈ fx) (hR : RowsMem kvs tab (slotsOf qs) xs fx) (good : ∀ k ∈ slotsOf qs, ∃ ns, tab k = some ns ∧ badOf ns = false) (hnv1 : 2 ≤ nv) (hnv2 : nv ≤ 4) (hdp : dp + 60 < recursionLimit) (hun : un + 300 < cLine)
    (fin : ∀ h' tk' m', Fr h₀ L h' m' → Q (.ret (.bool true)) { s with heap := h', toks := tk' }),
    wpC (model prog w) (ktrTop dp un gd (Str.ofString "law") d.scope L fa ccd [(Str.ofString "source", cA)] []) (execs (d.body.drop 7) (envX (Str.ofString "law") d.scope L fa ccd [(Str.ofString "source", cA)])) Q (fun _ _ => False) s := by
  refine tail_of (by rfl) ?_
  dsimp only [List.drop]
  intro B X T F N hM mP1 mP2 gP1 gP2 gP3 mR hR good hnv1 hnv2 hdp hun fin
  obtain ⟨dF, esF, nF, mf1, mf2, gf⟩ := hM.frm
  obtain ⟨dT, esT, nT, mt1, mt2, gt1, gt2, gt3⟩ := hM.tabs
  obtain ⟨oc, mc, ic, lc⟩ := hM.codes
  have hnn : 4 ≤ nv * nv := by
    have : nv = 2 ∨ nv = 3 ∨ nv = 4 := by omega
    rcases this with rfl | rfl | rfl <;> decide
  simp only [encs_rows] at F gP2
  have hsl4 := slotsOf_len hM.qr
  generalize hrs : (slotsOf qs).map (fun k => (k, (tab k).getD [])) = rs at F gP2
  have hr4 : rs.length ≤ 4 := by rw [← hrs, List.length_map]; exact hsl4
  have hrr : ∀ r ∈ rs, 0 ≤ r.1 ∧ r.1 ≤ 3 ∧ ((r.2.length : Nat) : Int) = nv * nv ∧ badOf r.2 = false := by
    intro r hr
    rw [← hrs] at hr
    obtain ⟨k, hk, rfl⟩ := List.mem_map.mp hr
    obtain ⟨ns, h1, h2⟩ := good k hk
    obtain ⟨T, us, oT, q1, q2, q3, q4, q5, q6⟩ := hM.held.yes k ns h1
    have hk3 := hM.qr k (slotsOf_mem.mp hk)
    rw [h1, Option.getD_some]
    exact ⟨hk3.1, hk3.2, q5, h2⟩
  refine wpC_of ?_
  k_steps
  unfold Stop
  refine triple_ne ‹News _ _ _ _› (.tail _ (.head _)) (.head _) (by show un < cLine; omega) ?_
  k_steps
  unfold Stop
  k_dflt (refine LCg.ListComp_U (F₀ := by k_asm) (by rfl) (by decide) (by rfl) (by decide) (by rfl) ?_)
  k_steps
  k_dflt (refine' readQuant_spec ?B ?F ?X ?T ?hk ?hr4 ?hn0 ?hn1 ?hrs ?hdp ?hun ?ret; (case B => assumption); (case F => k_asm); (case X => k_asm); (case T => k_asm); (case hk => exact rfl); (case hr4 => exact hr4); (case hn0 => exact hnv1); (case hn1 => exact hnv2); (case hrs => exact hrr); (case hdp => ktr_room); (case hun => ktr_units))
  intro Rr xr cr tups h' tk' kp md hRd
  (obtain ⟨F', N', l3⟩ := made_both (by k_asm) (by k_asm) kp md)
  (try dsimp only [List.cons_append, List.nil_append] at N')
  clear l3
  k_steps
  unfold Stop
  have hxr : xr.toArray.size = rs.length := by rw [List.size_toArray]; exact hRd.len
  refine LCg.CompSrc.ledger rfl ‹Fr _ _ _ _› ‹News _ _ _ _› (.head _) (by rw [hxr, sizeLine_eq]; omega) fun g => ?_
  refine compRest_ind (n := xr.toArray.size) (TkInv _ xr) ?_ ?_ _ 0 [] _ (Nat.zero_add _) ⟨rfl, rfl⟩
  · rintro i zs nw hi ⟨rfl, rfl⟩ v I oI C oC D m₂ h tk E' hP hC hx F9 N9 off n1 n2 n3
    obtain ⟨⟨k, ns⟩, hqi⟩ : ∃ r, rs[i]? = some r := ⟨_, List.getElem?_eq_getElem (by omega)⟩
    obtain ⟨Ti, t0, wt, Tn, us, hx1, hI1, hI2, hI3⟩ := hRd.row i k ns hqi
    have hv2 : v = .ref Ti := by simp only [List.getElem?_toArray] at hP; rw [hx1] at hP; exact (Option.some.inj hP).symm
    subst hv2
    have off0 := off
    k_steps
    refine call_tuple_tup (News.isTup ‹News _ _ _ _› (.tail _ (.tail _ (.tail _ (.tail _ (List.mem_append_left _ hI1)))))) ?_
    exact ⟨_, _, _, rfl, F9, N9, off0, .inr ⟨_, .head _, rfl, _, rfl⟩, by rw [List.take_add_one, hx1]; rfl, rfl⟩
  · rintro zs nw ⟨rfl, rfl⟩
    k_steps
    unfold Stop
    rename_i D9 h9 tk9 F9 N9 o9
    rw [List.size_toArray, List.take_length] at N9
    obtain ⟨fx2, k9, m9, kr9, N10⟩ : ∃ fx2, (∀ p ∈ fx, p ∈ fx2) ∧ (D9, LCg.lst xr) ∈ fx2 ∧ (∀ p ∈ tups, p ∈ fx2) ∧ News h₀ L h9 fx2 := by
      refine ⟨_, ?_, ?_, ?_, N9⟩
      · exact fun p hp => .tail _ (.tail _ (List.mem_append_right _ (.tail _ (.tail _ (.tail _ hp)))))
      · exact .head _
      · exact fun p hp => .tail _ (.tail _ (List.mem_append_left _ hp))
    clear N9 o9
    refine rows_ne (rs := rs) (News.isList N10 m9) (News.isList N10 (k9 _ mR)) hRd.len ?_ (hRd.at N10 kr9) ?_ (by show un + 64 < cLine; omega) ?_
    · rw [hR.len, ← hrs, List.length_map]
    · rw [← hrs]; exact hM.rowsAt hR N10 k9
    have hM := hM.mono k9
    replace mf1 := k9 _ mf1
    replace mf2 := k9 _ mf2
    replace mt1 := k9 _ mt1
    replace mt2 := k9 _ mt2
    replace mc := k9 _ mc
    k_steps
    unfold Stop
    refine dict_ne N10 hM.mq hM.mh hM.iq hM.ih hM.lq hM.lh hM.self (by show un < cLine; omega) ?_
    k_steps
    unfold Stop
    k_dflt (refine LCg.ListComp_U (F₀ := by k_asm) (by rfl) (by decide) (by rfl) (by decide) (by rfl) ?_)
    k_steps
    unfold Stop
    have hq4 := hM.q4
    have hsz : ys.toArray.size = qs.length := by rw [List.size_toArray]; exact hM.rows.len
    refine LCg.CompSrc.ledger rfl ‹Fr _ _ _ _› N10 hM.comps (by rw [hsz, sizeLine_eq]; omega) fun g => ?_
    refine compRest_ind (n := ys.toArray.size) (QkInv fx2 qs) ?_ ?_ _ 0 [] _ (Nat.zero_add _) ⟨.nil, rfl⟩
    · rintro i zs nw hi ⟨hv', rfl⟩ v I oI C oC D m₂ h tk E' hP hC hx F11 N11 off n1 n2 n3
      obtain ⟨qi, hqi⟩ : ∃ q, qs[i]? = some q := ⟨_, List.getElem?_eq_getElem (by omega)⟩
      obtain ⟨ci, di, es1, n9, t9, hx1, hI1, hI2, hg⟩ := hM.rows.row i qi hqi
      have hv2 : v = .ref ci := by simp only [List.getElem?_toArray] at hP; rw [hx1] at hP; exact (Option.some.inj hP).symm
      subst hv2
      have off0 := off
      have hmC := hM.comps
      k_steps
      unfold Stop
      exact ⟨_, _, _, rfl, F11, N11, off0, .inr ⟨_, hmC, rfl, _, rfl⟩, ints_next hv' hqi, rfl⟩
    · rintro zs nw ⟨hv1, rfl⟩
      rw [hsz, List.take_length] at hv1
      k_steps
      unfold Stop
      k_dflt (refine LCg.ListComp_U (F₀ := by k_asm) (by rfl) (by decide) (by rfl) (by decide) (by rfl) ?_)
      k_steps
      unfold Stop
      rename_i D2 h12 tk12 F12 N12 o12
      refine LCg.CompSrc.ledger rfl F12 N12 (.tail _ hM.comps) (by rw [hsz, sizeLine_eq]; omega) fun g => ?_
      refine compRest_ind (n := ys.toArray.size) (QkInv ((D2, LCg.lst zs) :: nw) qs) ?_ ?_ _ 0 [] _ (Nat.zero_add _) ⟨.nil, rfl⟩
      · rintro i zs2 nw2 hi ⟨hv', rfl⟩ v I oI C oC D m₂ h tk E' hP hC hx F11 N11 off n1 n2 n3
        obtain ⟨qi, hqi⟩ : ∃ q, qs[i]? = some q := ⟨_, List.getElem?_eq_getElem (by omega)⟩
        obtain ⟨ci, di, es1, n9, t9, hx1, hI1, hI2, hg⟩ := hM.rows.row i qi hqi
        have hv2 : v = .ref ci := by simp only [List.getElem?_toArray] at hP; rw [hx1] at hP; exact (Option.some.inj hP).symm
        subst hv2
        have off0 := off
        have hmC := hM.comps
        k_steps
        unfold Stop
        exact ⟨_, _, _, rfl, F11, N11, off0, .inr ⟨_, .tail _ hmC, rfl, _, rfl⟩, ints_next hv' hqi, rfl⟩
      · rintro zs2 nw2 ⟨hv2, rfl⟩
        rw [hsz, List.take_length] at hv2
        k_steps
        unfold Stop
        rename_i D3 h13 tk13 F13 N13 o13
        refine ke_eq_ints (News.isList N13 (.tail _ (.head _))) (News.isList N13 (.head _)) hv1 hv2 (by show un + 64 < cLine; omega) ?_
        rw [decide_eq_true rfl]
        k_steps
        unfold Stop
        refine dict_eq ‹News _ _ _ _› (.tail _ (.tail _ (.tail _ mc))) (.head _) ic (by assumption) lc (by assumption) (by simp) (by show un < cLine; omega) ?_
        k_steps
        exact fin _ _ _ (by assumption)
end

end
theorem off_lawend : True := by
  k_with "off_lawend" => skip
  trivial


theorem fresh_lawtail {prog : Program} {w : World} {A : Around} {E : Value → Shared → Prop} {s : Shared} {env : Env} {Q : Flow → Shared → Prop} (h : Q .next s) : wpAny (model prog w) A (execs [] env) Q E s := by
  w_top off
  first | (walk1; done) | (walk1; exact h) | exact wpAny_execs_nil h
section
section
variable {prog : Program} {w : World} {p : Program} {loose : List Str} {mean : ExcName → Option Value} {mg mb : Str → Option Value} {dp un : Nat} {gd : Option (List Code)} {fa : Addr} {ccd : Value} {A₀ : Around} {base h₀ : Heap} {L : Addr} {s : Shared} {Q : Flow → Shared → Prop}
theorem law_tail {D q hv cA Frm Tab Cm cd : Addr} {cO oq oh : Obj} {ys : List Value} {qs : List Int} {fx : List (Addr × Obj)} {m0 : Str → Option Value} {nv x y : Int} {tn tx ty : Tok} {Dn : Nat} :
    ∀ (d : DefRec) (kwd : List (Str × PySem.Expr)), defOf hd.view_39 (Str.ofString "law") = some (d, kwd) → ∀ (B : Below A₀ base [] h₀) (X : (hd.heap_1 w.params).In h₀) (T : Top p loose mean mg mb h₀)
    (F : Fr h₀ L s.heap fun z => if z = Str.ofString "frame" then some (.ref Frm) else if z = Str.ofString "tables" then some (.ref Tab) else if z = Str.ofString "held" then some (.ref hv) else if z = Str.ofString "components" then some (.ref Cm) else if z = Str.ofString "n" then some (.int nv tn) else m0 z)
    (N : News h₀ L s.heap ((D, listOf #[Value.int x tx, Value.int y ty] Dn) :: (q, oq) :: (hv, oh) :: fx)) (hcO : cO.data = .cell (some (.ref D)))
    (hfx : LawFix prog w D q hv cA cO ys qs Frm Tab Cm cd fx) (hDq : @Ne Nat q D) (hDh : @Ne Nat hv D) (hqh : @Ne Nat hv q) (loq : (q == sysModules) = false) (loh : (hv == sysModules) = false)
    (hiq : oq.IsDictOf (PySem.intKind prog w) []) (hih : oh.IsDictOf (PySem.intKind prog w) []) (hnv1 : 2 ≤ nv) (hnv2 : nv ≤ 4) (hx0 : 0 ≤ x) (hy0 : 0 ≤ y) (hy1 : y < 2147483647) (hdp : dp + 60 < recursionLimit) (hun : un + 300 < cLine) (q4 : qs.length ≤ 4) (qr : ∀ q ∈ qs, 0 ≤ q ∧ q ≤ 3)
    (fin : ∀ h' tk' m', Fr h₀ L h' m' → Q (.ret (.bool true)) { s with heap := h', toks := tk' }),
    wpC (model prog w) (ktrTop dp un gd (Str.ofString "law") d.scope L fa ccd [(Str.ofString "source", cA)] []) (execs (d.body.drop 4) (envX (Str.ofString "law") d.scope L fa ccd [(Str.ofString "source", cA)])) Q (fun _ _ => False) s := by
  intro d kwd e B X T F N hcO hfx hDq hDh hqh loq loh hiq hih hnv1 hnv2 hx0 hy0 hy1 hdp hun q4 qr fin
  obtain ⟨hnn1, hnn0⟩ : nv * nv ≤ 16 ∧ 4 ≤ nv * nv := by
    have : nv = 2 ∨ nv = 3 ∨ nv = 4 := by omega
    rcases this with rfl | rfl | rfl <;> decide
  refine law_loop d kwd e B X T F N hcO hfx hDq hDh hqh loq loh hiq hih hnv1 hnv2 hx0 hy0 hy1 hdp hun ?_
  intro h tk os x y tx ty oq oh kvs tab fx F N hfx iq ih hH hks
  refine law_due d kwd e B X T F N (LawMem.of_fix hfx iq ih loq loh hH q4 qr hks) hnn0 hnn1 hdp hun ?_
  intro h tk due rows fx' F N hM hD
  refine law_try d kwd e B X T F N hM hD hnn0 hnn1 hdp hun (fun h' tk' m' F' => fin h' tk' m' F') ?_
  intro h tk Px dP es n t1 t2 t3 t R xs c fx' F N hM a1 a2 a3 a4 a5 a6 a7 a8
  exact law_end d kwd e B X T F N hM a1 a2 a3 a4 a5 a6 a7 a8 hnv1 hnv2 hdp hun (fun h' tk' m' F' => fin h' tk' m' F')
end

end
theorem off_lawtail : True := by
  k_with "off_lawtail" => skip
  trivial


theorem fresh_law {prog : Program} {w : World} {A : Around} {E : Value → Shared → Prop} {s : Shared} {env : Env} {Q : Flow → Shared → Prop} (h : Q .next s) : wpAny (model prog w) A (execs [] env) Q E s := by
  w_top off
  first | (walk1; done) | (walk1; exact h) | exact wpAny_execs_nil h
section
theorem word_w79 : True := by
  k_with "exec Assign cons ListComp" => ((fail_if_success k_extra "off_law"); refine stop_of ?_)
  trivial
theorem word_w80 : True := by
  k_with "CompSrc" => ((fail_if_success k_extra "off_law"); refine stop_of ?_)
  trivial
theorem word_w81 : True := by
  k_with "CompEnd" => ((fail_if_success k_extra "off_law"); refine stop_of ?_)
  trivial
theorem word_w82 : True := by
  k_with "call ref" => ((fail_if_success k_extra "off_law"); k_here; (with_reducible show wpAny _ _ (call (Value.ref 350) _) _ _ _); k_dflt (refine' pool_spec ?B ?F ?X ?T ?hk ?hl ?hi ?hz ?hzn ?hdp ?hun ?_; (case B => assumption); (case F => k_asm); (case X => k_asm); (case T => k_asm); (case hk => exact rfl); (case hl => exact Fr.lst (by k_asm) (by assumption)); (case hi => assumption); (case hz => assumption); (case hzn => assumption); (case hdp => ktr_room); (case hun => ktr_units)); intro D' x' tx' y' ty' h' tk' n' x0 y0 y1 nn kp hD'; (obtain ⟨F', N', l1⟩ := made_both (by k_asm) (by k_asm) kp (made_one nn hD')); (try dsimp only [List.cons_append, List.nil_append] at N'); (try simp only [List.forall_mem_cons, List.not_mem_nil, false_implies, implies_true, and_true] at l1); (first | (revert D' x' tx' y' ty' h' tk' n' x0 y0 y1 nn kp hD' F' N' l1; intros) | (revert D' x' tx' y' ty' h' tk' n' x0 y0 y1 nn kp hD' F' N'; intros) | (revert D' x' tx' y' ty' h' tk' n' x0 y0 y1 nn kp hD' F' N'; intros)); (try k_sweep))
  trivial
theorem off_fx {a : Addr} {x1 x2 x3 x4 x5 x6 x7 : Addr × Obj} {l : List (Addr × Obj)} (h1 : x1.1 ≠ a) (h2 : x2.1 ≠ a) (h3 : x3.1 ≠ a) (h4 : x4.1 ≠ a) (h5 : x5.1 ≠ a) (h6 : x6.1 ≠ a) (h7 : x7.1 ≠ a) (h8 : ∀ p ∈ l, p.1 ≠ a) : ∀ p ∈ x1 :: x2 :: x3 :: x4 :: x5 :: x6 :: x7 :: l, p.1 ≠ a := by
  simp only [List.forall_mem_cons]
  exact ⟨h1, h2, h3, h4, h5, h6, h7, h8⟩
section
variable {prog : Program} {w : World} {p : Program} {loose : List Str} {mean : ExcName → Option Value} {mg mb : Str → Option Value} {dp un : Nat} {gd : Option (List Code)} {fa : Addr} {ccd : Value} {A₀ : Around} {base h₀ : Heap} {L : Addr} {s : Shared} {Q : Flow → Shared → Prop}
set_option maxHeartbeats 8000000 in
theorem law_head {cA Sc : Addr} {cellO : Obj} {svs : List Value} {sns : List Int} {m0 : Str → Option Value} :
    ∀ (d : DefRec) (kwd : List (Str × PySem.Expr)), defOf hd.view_39 (Str.ofString "law") = some (d, kwd) → ∀ (B : Below callerA h₀ [] h₀) (X : (hd.heap_1 w.params).In h₀) (T : Top p loose mean mg mb h₀)
    (F : Fr h₀ L s.heap fun z => if z = Str.ofString "script" then some (.ref Sc) else m0 z) (N : News h₀ L s.heap [(cA, cellO)]) (hcell : cellO.data = .cell none) (hSL : h₀.IsList Sc svs.toArray) (hSI : IntsAre svs sns) (hzn : svs.toArray.size = sns.length) (hz : svs.toArray.size ≤ 1000000)
    (fin : ∀ h' tk' m', Fr h₀ L h' m' → Q (.ret (.bool true)) { s with heap := h', toks := tk' }),
    wpC (model prog w) (callerA.deeper (envX (Str.ofString "law") d.scope L fa ccd [(Str.ofString "source", cA)])) (execs d.body (envX (Str.ofString "law") d.scope L fa ccd [(Str.ofString "source", cA)])) Q (fun _ _ => False) s := by
  refine tail_of (by rfl) ?_
  dsimp only
  intro B X T F N hcell hSL hSI hzn hz fin0
  refine execsC_A ?_
  k_steps
  rename_i D v1 u1 v2 u2 g1 tk1 Dn vp1 vp2 vp3 nD kD hD1 lD g2 cO F1 N1 hcO
  clear hD1 kD nD
  obtain ⟨m0, F1⟩ : ∃ m0, Fr h₀ L g2 m0 := ⟨_, F1⟩

  refine execsC_A ?_
  k_steps
  rename_i rn tn v3 u3 v4 u4 g3 tk2 rn0 rn1 vq1 vq2 vq3 kq hD2 g4 F2 N2
  clear kq hD2 vp1 vp2 vp3
  generalize hnv : 2 + rn = nv at *
  have hnv1 : 2 ≤ nv := by omega
  have hnv2 : nv ≤ 4 := by omega
  obtain ⟨hnn1, hnn0⟩ : nv * nv ≤ 16 ∧ 4 ≤ nv * nv := by
    have : nv = 2 ∨ nv = 3 ∨ nv = 4 := by omega
    rcases this with rfl | rfl | rfl <;> decide
  refine execsC_A ?_
  k_steps
  unfold Stop
  k_dflt (refine LCg.Assign_ListComp_U (F₀ := by k_asm) (by rfl) (by with_unfolding_all rfl) (by with_unfolding_all rfl) (by decide) (by rfl) (by decide) (by rfl) (by rfl) (by rfl) ?_)
  k_steps
  unfold Stop
  rename_i rc tc v5 u5 v6 u6 g5 tk3 rc0 rc1 vr1 vr2 vr3 kr hD3 F3 N3 g6 tk4 rt1 rt2 rt3 hR F4 N4 k4
  clear kr hD3 vq1 vq2 vq3
  refine LCg.CompSrc.range (n := (1 + rc).toNat) rfl F4 N4 hR ?sm ?sz ?sl fun g => ?_
  case sm => exact PySem.small_one (by omega) (by omega) (by omega) (by omega)
  case sz => unfold Builtin.Range.rangeSize; simp; omega
  case sl => rw [sizeLine_eq]; omega
  refine compRest_ind (n := (1 + rc).toNat) (CompsInv D (cA) cO Dn) ?_ ?_ _ 0 [] _ (Nat.zero_add _)
    ⟨[], v5, v6, u5, u6, [], rfl, ⟨rfl, by simp⟩, rfl, by simp, vr1, vr2, vr3, by simp, by simp⟩
  · rintro i ys nw hi ⟨qs, x, y, tx, ty, tups, rfl, hCR, hql, hq3, hx0, hy0, hy1, htD, htc⟩ v I oI C oC Dl m₂ h tk E' hP hC hx' F9 N9 off n1 n2 n3
    clear F4 N4 F3 N3 k4
    obtain ⟨tv, rfl⟩ := hP
    simp only [LCg.Off3] at off
    k_steps
    unfold Stop
    rename_i cE9 q9 e9 r t x1 tx1 y1 ty1 h6 tk6 r0 r1 z1 z2 z3 kp6 hD6 xi di h5 F5 N5 l1 l2 g7 L7 h7 FG7 B7 X7 T7 h8 h9 h10 h11 F8 N8 kF kN Tc kX
    exact ⟨_, _, _, rfl, kF, newsComp kN, ⟨off.1, off.2.1, ⟨ne_lt (Nat.lt_trans l1.1 l2), ne_lt (Nat.lt_trans l1.2.1 l2), ne_lt (Nat.lt_trans l1.2.2.1 l2)⟩, ⟨ne_lt l1.1, ne_lt l1.2.1, ne_lt l1.2.2.1⟩, off.2.2⟩, trivial,
      ⟨qs ++ [r], x1, y1, tx1, ty1, _, rfl, hCR.snoc rfl, by simp [hql], (fun q hq => by rcases List.mem_append.mp hq with hq | hq; exact hq3 q hq; rw [List.mem_singleton.mp hq]; omega), z1, z2, z3,
        off_two (ne_lt (Nat.lt_trans l1.2.2.2.1 l2)) (ne_lt l1.2.2.2.1) htD, off_two (ne_lt (Nat.lt_trans l1.2.2.2.2.1 l2)) (ne_lt l1.2.2.2.2.1) htc⟩⟩
  · rintro ys nw ⟨qs, x, y, tx, ty, tups, rfl, hCR, hql, hq3, hx0, hy0, hy1, htD, htc⟩
    clear F4 N4 F3 N3 k4
    k_steps
    rename_i Cm g7 tk5 F5 N5 hCm
    refine execsC_A ?_
    k_steps
    rename_i Frm dF hh1 lF1 lF2 gg1 LL1 hh2 BB1 XX1 TT1 li1 qk1 ek1 tkk hh3 hh4 hh5 hh6 hh7 hh8 FF1 NN1 TTc1 kX1 Tab dT hh9 lT1 lT2 gg2 LL2 hh10 BB2 XX2 TT2 q hq1 oq loq hsq fsq hiq fiq lq hq2 cd hc1 oc loc hsc fsc hic fic lc hc2 cn hn1 on lon hsn fsn hin fin ln hn2 FF2 NN2 TTc2 kX2 hv hd1 oh loh hsh fsh hih fih lh T3 ht1 lt3 ht2 ht3 ht4 ht5 F6 N6
    dsimp only at F6 N6 ⊢
    have N7 := newsFix N6
    obtain ⟨fx, hfx, N8⟩ : ∃ fx, LawFix prog w D q hv (cA) cO ys qs Frm Tab Cm cd fx ∧ News h₀ L ht5 ((D, listOf #[Value.int x tx, Value.int y ty] Dn) :: (q, oq) :: (hv, oh) :: fx) := by
      refine ⟨_, ?_, N7⟩
      refine { cell := ?_, comps := ?_, rows := ?_, frm := ?_, tab := ?_, codes := ?_, offD := ?_, offq := ?_, offh := ?_ }
      · exact .tail _ (.tail _ (.tail _ (.tail _ (.tail _ (.tail _ (.head _))))))
      · exact .tail _ (.tail _ (.tail _ (.tail _ (.tail _ (.head _)))))
      · exact hCR.mono fun p hp => .tail _ (.tail _ (.tail _ (.tail _ (.tail _ (.tail _ (.tail _ hp))))))
      · exact ⟨dF, _, _, .tail _ (.tail _ (.tail _ (.head _))), .tail _ (.tail _ (.tail _ (.tail _ (.head _)))), rfl⟩
      · exact ⟨dT, _, _, .tail _ (.head _), .tail _ (.tail _ (.head _)), rfl, rfl, rfl⟩
      · exact ⟨oc, .head _, hic, loc⟩
      · exact off_fx (ne_lt lc.2.2.2.2.2.2.1) (ne_lt (Nat.lt_trans lT1.2.2.2.1 lT2)) (ne_lt lT1.2.2.2.1) (ne_lt (Nat.lt_trans lF1.2.1 lF2)) (ne_lt lF1.2.1) (Ne.symm hCm.1) lD htD
      · exact off_fx (ne_lt lc.1) (Nat.ne_of_lt lq.1) (Nat.ne_of_lt lq.2.1) (Nat.ne_of_lt lq.2.2.1) (Nat.ne_of_lt lq.2.2.2.1) (Nat.ne_of_lt lq.2.2.2.2.1) (Nat.ne_of_lt lq.2.2.2.2.2.2.1) (lt_all lq.2.2.2.2.2.2.2)
      · exact off_fx (Nat.ne_of_lt lh.2.1) (Nat.ne_of_lt lh.2.2.2.1) (Nat.ne_of_lt lh.2.2.2.2.1) (Nat.ne_of_lt lh.2.2.2.2.2.1) (Nat.ne_of_lt lh.2.2.2.2.2.2.1) (Nat.ne_of_lt lh.2.2.2.2.2.2.2.1) (Nat.ne_of_lt lh.2.2.2.2.2.2.2.2.2.1) (lt_all lh.2.2.2.2.2.2.2.2.2.2)
    have hDq : @Ne Nat q D := ne_lt lq.2.2.2.2.2.1
    have hDh : @Ne Nat hv D := ne_lt lh.2.2.2.2.2.2.2.2.1
    have hqh : @Ne Nat hv q := ne_lt lh.2.2.1
    have e0 : defOf hd.view_39 (Str.ofString "law") = some (_, _) := rfl
    refine law_tail (A₀ := callerA) (prog := prog) (s := { s with heap := ht5, toks := _ }) _ _ e0 B X T F6 N8 hcO hfx hDq hDh hqh loq loh hiq hih hnv1 hnv2 hx0 hy0 hy1 ?hdp ?hun ?q4 hq3 (fun h' tk' m' F' => fin0 h' tk' m' F')
    case hdp => decide
    case hun => decide
    case q4 => omega
end
theorem enter_callC {M : Model} {A : Around} {s : Shared} {f : Value} {pos : List Value} {c : ClaimW} {cl : Str → Option Addr} {mean : ExcName → Option Value} {args : List WData} {s₁ : Shared}
    (h : codeC M A (.call f ⟨pos, []⟩) (GoodWG c cl mean args s₁) s) : wpC M A (PySem.call f pos) (fun v s' => GoodWG c cl mean args s₁ (.ok (.ret v)) s') (fun e s' => GoodWG c cl mean args s₁ (.error e) s') s :=
  wpC_call (codeC_mono h fun res s' g => by rcases g.1 with ⟨v, _, _, rfl, _⟩ | ⟨e, _, _, rfl, _⟩ <;> exact g)
set_option maxHeartbeats 8000000 in
theorem walk : wOf hd := by
  unfold wOf
  w_strict (
  k_fill
  intro w s₀ s₁ mg mb G Y fa o pm cd doc dV kV ho hd hcd hD hmg hg args vals as hpre hlay hrd hwl hlo
  have KX := kIn_of Y
  have X := (Ground.X G).1
  have V := (Ground.X G).2
  refine Ground.open G ?_
  intro T B D TE TW
  try (refine guard_noD D (by decide +kernel) ?_; clear D)
  obtain ⟨_, _, M⟩ := bmod_of_top T
  have TA := at_of_top T
  try (obtain ⟨_, _, he, B0⟩ := based_of_top T rfl hmg ho hd; have he' : cd = _ := he; subst he'; clear he)
  clear hmg
  wrow_args hpre hlay hrd hwl hlo
  refine enter_callC ?_
  have K0 := below_caller (Top.heap T)
  have he := Dflts.none hD rfl; subst he; have he := Dflts.noKw hD; subst he
  refine lawC (by decide) ho (fd_plain hd) (Top.nolimit T) hcd rfl (kinds_of (by kinds_ok)) (by decide) (fun h₁ tk₁ cells F N0 X0 => ?_) rfl rfl rfl
  cells_open X0
  clear hd TA
  k_drop
  rename_i sns hs1 hl0 hl1 hr1 hl2 a5 a4 Sc svs a1 hSL hra hwl hrd hSI hrw hc63 hct cellO hcell
  have KB : Below callerA s₁.heap [] s₁.heap := K0
  have hzn : svs.toArray.size = sns.length := by rw [List.size_toArray]; exact hSI.length
  have hz : svs.toArray.size ≤ 1000000 := by rw [hzn]; omega
  clear hs1 hl0 hl1 hr1 hl2 hra hrd hrw hct hcd hD
  have e0 : defOf hd.view_39 (Str.ofString "law") = some (_, _) := rfl
  obtain ⟨m0, F1⟩ : ∃ m0 : Str → Option Value, Fr s₁.heap s₁.heap.objs.size h₁ (fun z => if z = Str.ofString "script" then some (.ref Sc) else m0 z) := ⟨_, by first | exact F | (refine Eq.mp (congrArg _ ?_) F; exact updSelf (Str.ofString "script") _)⟩
  refine wpC_mono (law_head (prog := Challenge.rw_nz0250_01.row.prog) (s := { s₁ with heap := h₁, toks := tk₁ }) _ _ e0 KB KX T F1 N0 hcell hSL hSI hzn hz ?fin) (fun _ _ h => h) (fun _ _ h => h.elim)
  case fin =>
    intro h' tk' m' F'
    refine GoodW.toG ?_
    dsimp only
    refine goodW_bool F' hg (raisesW_false ?_) ?_
    · wrow_none_raised
    · kc_post)

end
theorem off_law : True := by
  k_with "off_law" => skip
  trivial

end Mine
namespace Mine.top
theorem tw16878204669230926818 : True := trivial
theorem tw16885616592811714743 : True := trivial
theorem tw4047667213573674445 : True := trivial
theorem tw11520865232209809239 : True := trivial
theorem tw2464713573024523455 : True := trivial
theorem tw352232786441526191 : True := trivial
theorem tw14632489290957082403 : True := trivial
theorem tw14823308797102314842 : True := trivial
theorem tw5667650583090716360 : True := trivial
theorem tw7008692893051332821 : True := trivial
theorem tw1040915598704419856 : True := trivial
theorem tw18034075008235765660 : True := trivial
theorem tw775762912060472103 : True := trivial
theorem tw1617357707322924660 : True := trivial
theorem tw283044589724301 : True := trivial
theorem tw427269002284569659 : True := trivial
theorem tw8598144960395782539 : True := trivial
theorem tw6127594578889010139 : True := trivial
theorem tw10674252106467599216 : True := trivial
theorem tw11334350811105764591 : True := trivial
theorem tw2665807947273092163 : True := trivial
theorem tw5244899138074338376 : True := trivial
theorem tw3730354652608582461 : True := trivial
theorem tw8679839319945467846 : True := trivial
theorem tw908825868028484722 : True := trivial
theorem tw3352738760509787134 : True := trivial
theorem tw1814787853859245837 : True := trivial
theorem tw7527032243904285869 : True := trivial
theorem tw11922380849998532372 : True := trivial
theorem tw453181688931711583 : True := trivial
theorem tw16123964013534891561 : True := trivial
theorem tw13345470168829271861 : True := trivial
theorem tw16926593981545840131 : True := trivial
theorem tw13044034144603486326 : True := trivial
theorem tw13369591340354186047 : True := trivial
theorem tw16439428074185983240 : True := trivial
theorem tw3019106374644219109 : True := trivial
theorem tw16415559393655328363 : True := trivial
theorem tw8321918168302905379 : True := trivial
theorem tw7198060816514059695 : True := trivial
theorem tw11858546649754279707 : True := trivial
theorem tw1195175773429642966 : True := trivial
theorem tw12415523145999629524 : True := trivial
theorem tw5225153198818245361 : True := trivial
theorem tw390997316461189296 : True := trivial
theorem tw4597200072644226624 : True := trivial
theorem tw8735323631387419056 : True := trivial
theorem tw8645369167282567922 : True := trivial
theorem tw8689318265317240412 : True := trivial
theorem tw5225916559131626549 : True := trivial
theorem tw8729362747519067210 : True := trivial
theorem tw649594095290182367 : True := trivial
theorem tw8212240652046128837 : True := trivial
theorem tw13359135706311490777 : True := trivial
theorem tw14399976873020721970 : True := trivial
theorem tw2985252069258134486 : True := trivial
theorem tw8435561252592420358 : True := trivial
theorem tw13370750898655102155 : True := trivial
theorem tw8139039716903228087 : True := trivial
theorem tw12425085872883035938 : True := trivial
theorem tw5088376156974544275 : True := trivial
theorem tw1149218181149386328 : True := trivial
theorem tw18064794426631996164 : True := trivial
theorem tw7847650389618582240 : True := trivial
theorem tw8833053369097974544 : True := trivial
theorem tw14901070454687303710 : True := trivial
theorem tw16580785732701462914 : True := trivial
theorem tw10006222313960134694 : True := trivial
theorem tw10783980745131425670 : True := trivial
theorem tw1275901062530889299 : True := trivial
theorem tw12342655685612074800 : True := trivial
theorem tw10936122117785486979 : True := trivial
theorem tw14826035006057030972 : True := trivial
theorem tw3422688185749166683 : True := trivial
theorem tw9961057766049560675 : True := trivial
theorem tw16759092144687519636 : True := trivial
theorem tw7444641836354208208 : True := trivial
theorem tw15092371282622821202 : True := trivial
theorem tw1676862907878916244 : True := trivial
theorem tw12080426169559351053 : True := trivial
theorem tw12483720753089274532 : True := trivial
theorem tw13310400573052568472 : True := trivial
theorem tw2126296398998916975 : True := trivial
theorem tw15976228082101565994 : True := trivial
theorem tw860223938195835975 : True := trivial
theorem tw18085771088847121727 : True := trivial
theorem tw12819366960792805191 : True := trivial
theorem tw8237333600419904120 : True := trivial
theorem tw216529984938456764 : True := trivial
theorem tw5476889619067714990 : True := trivial
theorem tw17810072253543177317 : True := trivial
theorem tw6906291655842520137 : True := trivial
theorem tw17620759639134147866 : True := trivial
theorem tw13928562000808390012 : True := trivial
theorem tw11141966352661209427 : True := trivial
theorem tw8622502720953521162 : True := trivial
theorem tw17323899518341599180 : True := trivial
theorem tw5058314954733539658 : True := trivial
theorem tw501154541418245514 : True := trivial
theorem tw13420762306968818387 : True := trivial
theorem tw11424894988859586721 : True := trivial
theorem tw14142502885225118848 : True := trivial
theorem tw13134186033006778460 : True := trivial
theorem tw2822501910515967889 : True := trivial
theorem tw877433047237710547 : True := trivial
theorem tw1585457916280141200 : True := trivial
theorem tw2731995056826638727 : True := trivial
theorem tw7830913209206220567 : True := trivial
theorem tw15058813355848621054 : True := trivial
theorem tw708234853630380328 : True := trivial
theorem tw9063741608606530840 : True := trivial
theorem tw6438537300738474071 : True := trivial
theorem tw14168018189251442112 : True := trivial
theorem tw15503665604740900718 : True := trivial
theorem tw6662652255960138227 : True := trivial
theorem tw5581607755468803823 : True := trivial
theorem tw6664487174759623829 : True := trivial
theorem tw4671429814451907529 : True := trivial
theorem tw1673491819266455571 : True := trivial
theorem tw2835187731363253809 : True := trivial
theorem tw14789260269991461300 : True := trivial
theorem tw1212798325632107971 : True := trivial
theorem tw11613256710310857696 : True := trivial
theorem tw17266949926392168832 : True := trivial
theorem tw14402358008270493973 : True := trivial
theorem tw6624316729101989866 : True := trivial
theorem tw11459358961799972967 : True := trivial
theorem tw9382581127745807760 : True := trivial
theorem tw10478281044441265007 : True := trivial
theorem tw8184561461823581802 : True := trivial
theorem tw11423202765487971197 : True := trivial
theorem tw16352630495959832749 : True := trivial
theorem tw9743097575036673082 : True := trivial
theorem tw11960245374511038805 : True := trivial
theorem tw14349089067433371257 : True := trivial
theorem tw4655869559712951663 : True := trivial
theorem tw7429413206186439793 : True := trivial
theorem tw16155163154822807229 : True := trivial
theorem tw6930518751129746686 : True := trivial
theorem tw9601329371697537090 : True := trivial
theorem tw16782997733028217545 : True := trivial
theorem tw728428047077509346 : True := trivial
theorem tw7990429038631628895 : True := trivial
theorem tw72247145696351765 : True := trivial
theorem tw2145171640123136144 : True := trivial
theorem tw15877122091014420850 : True := trivial
theorem tw12427389293880184781 : True := trivial
theorem tw6520327441239513222 : True := trivial
theorem tw17565814175750979855 : True := trivial
theorem tw16900427199656544559 : True := trivial
theorem tw8694864300669457046 : True := trivial
theorem tw2581206410525282061 : True := trivial
theorem tw14572550683736460667 : True := trivial
theorem tw2847958352784047137 : True := trivial
theorem tw146815374380898660 : True := trivial
theorem tw620129878449983639 : True := trivial
theorem tw9614876229902214918 : True := trivial
theorem tw14459580976405569124 : True := trivial
theorem tw7829887443442302667 : True := trivial
theorem tw381845443943030031 : True := trivial
theorem tw6286779285267259847 : True := trivial
theorem tw5766051744304087583 : True := trivial
theorem tw3254097082911018636 : True := trivial
theorem tw1516213087968936877 : True := trivial
theorem tw10404823597219466188 : True := trivial
theorem tw18008055252877512497 : True := trivial
theorem tw7743179893348639699 : True := trivial
theorem tw17912322529849362164 : True := trivial
theorem tw16368619182151815931 : True := trivial
theorem tw4859757453598101857 : True := trivial
theorem tw5105846836358774362 : True := trivial
theorem tw9800703332001039478 : True := trivial
theorem tw14608685727046917156 : True := trivial
theorem tw15985961358823992270 : True := trivial
theorem tw14917401599646851644 : True := trivial
theorem tw705360758644809490 : True := trivial
theorem tw5597187220613765494 : True := trivial
theorem tw10090393231696489298 : True := trivial
theorem tw15466825709929456502 : True := trivial
theorem tw17046948494117081484 : True := trivial
theorem tw11430207588045935325 : True := trivial
theorem tw2732273902793177162 : True := trivial
theorem tw4076138812419527698 : True := trivial
theorem tw4186445540838780016 : True := trivial
theorem tw2249405535684624136 : True := trivial
theorem tw2812155379371279736 : True := trivial
theorem tw6749217079512962374 : True := trivial
theorem tw13501252493785611398 : True := trivial
theorem tw6505410396798821541 : True := trivial
theorem tw6885214360128481674 : True := trivial
theorem tw5303079699428457377 : True := trivial
theorem tw16174758807025615021 : True := trivial
theorem tw10195997230039290492 : True := trivial
theorem tw11199532085631943738 : True := trivial
theorem tw15878805988109762761 : True := trivial
theorem tw18086089286151905521 : True := trivial
theorem tw8410488445778877200 : True := trivial
theorem tw13120753694373217308 : True := trivial
theorem tw5155950481276406077 : True := trivial
theorem tw2218668502564051296 : True := trivial
theorem tw16541100652227675460 : True := trivial
theorem tw15254643099363442306 : True := trivial
theorem tw6189502492464219833 : True := trivial
theorem tw8538268897159353584 : True := trivial
theorem tw15740088241188596515 : True := trivial
theorem tw17886615442053742456 : True := trivial
theorem tw6430265229019958763 : True := trivial
theorem tw5278709424875269971 : True := trivial
theorem tw3561193834555079511 : True := trivial
theorem tw17355269125676882429 : True := trivial
theorem tw11546936639936008217 : True := trivial
theorem tw4940147422707163885 : True := trivial
theorem tw14796646475526232899 : True := trivial
theorem tw6491118196486620199 : True := trivial
theorem tw105208000716104510 : True := trivial
theorem tw9378254376102152143 : True := trivial
theorem tw1736530178072539846 : True := trivial
theorem tw17470836177267949868 : True := trivial
theorem tw11466170419677230873 : True := trivial
theorem tw13896958669275611876 : True := trivial
theorem tw4498253355057717688 : True := trivial
theorem tw1139600151236580504 : True := trivial
theorem tw13303987763403120937 : True := trivial
theorem tw13889484949932952446 : True := trivial
theorem tw12622177474791663080 : True := trivial
theorem tw18371284783138465269 : True := trivial
theorem tw4656485037274611717 : True := trivial
theorem tw8892184565913893157 : True := trivial
theorem tw6042063481754889096 : True := trivial
theorem tw16196420915677631385 : True := trivial
theorem tw16273406610938067001 : True := trivial
theorem tw12105128591322288922 : True := trivial
theorem tw3337584539547039419 : True := trivial
theorem tw12643491718579748851 : True := trivial
theorem tw6572447435987645144 : True := trivial
theorem tw1047907039808853306 : True := trivial
theorem tw6898770573198911631 : True := trivial
theorem tw15860264024139754761 : True := trivial
theorem tw17089494485692210459 : True := trivial
theorem tw16054190913257422852 : True := trivial
theorem tw8509995832008026349 : True := trivial
theorem tw8813761850579938390 : True := trivial
theorem tw12317137736924338119 : True := trivial
theorem tw10567129059001840431 : True := trivial
theorem tw2811446512466313300 : True := trivial
theorem tw1245559373397905713 : True := trivial
theorem tw12376051458212225564 : True := trivial
theorem tw16420938139371093754 : True := trivial
theorem tw10996937224433265937 : True := trivial
theorem tw14851680436948445374 : True := trivial
theorem tw18186074749648716422 : True := trivial
theorem tw16325430554902658873 : True := trivial
theorem tw2555065506035805374 : True := trivial
theorem tw11199710921928265848 : True := trivial
theorem tw15361541807878343388 : True := trivial
theorem tw7715697345341360870 : True := trivial
theorem tw15301174211037270058 : True := trivial
theorem tw1638113669730673903 : True := trivial
theorem tw2867133514656366558 : True := trivial
theorem tw3314364781008592192 : True := trivial
theorem tw6176384092110617959 : True := trivial
theorem tw5938664839603501006 : True := trivial
theorem tw7297446738713254254 : True := trivial
theorem tw16104615914030681952 : True := trivial
theorem tw15299407806266782574 : True := trivial
theorem tw17492772389151264855 : True := trivial
theorem tw814325599930780420 : True := trivial
theorem tw2924597203103170677 : True := trivial
theorem tw17428532607074087071 : True := trivial
theorem tw342308947776675178 : True := trivial
theorem tw2617719716777270872 : True := trivial
theorem tw4205137553216949640 : True := trivial
theorem tw15293546759631975690 : True := trivial
theorem tw9059832203979395877 : True := trivial
theorem tw15240379268576122478 : True := trivial
theorem tw8363718466572441477 : True := trivial
theorem tw17469865338272021226 : True := trivial
theorem tw12787338502077490372 : True := trivial
theorem tw5860347150701562758 : True := trivial
theorem tw12718909917080609646 : True := trivial
theorem tw8523463495250067690 : True := trivial
theorem tw15169761463676818070 : True := trivial
theorem tw10665782433003767796 : True := trivial
theorem tw12094960947251128927 : True := trivial
theorem tw6756868429301003459 : True := trivial
theorem tw594810645892935528 : True := trivial
theorem tw16044733080236030384 : True := trivial
theorem tw9305691244287143441 : True := trivial
theorem tw17555251805378815213 : True := trivial
theorem tw7600245330811189008 : True := trivial
theorem tw8810280945414196856 : True := trivial
theorem tw13822267516522204269 : True := trivial
theorem tw4784893810139332661 : True := trivial
theorem tw10648311167861321448 : True := trivial
theorem tw1483126911874232274 : True := trivial
theorem tw11203750815551599093 : True := trivial
theorem tw370947364307004932 : True := trivial
theorem tw13264354339760550358 : True := trivial
theorem tw987869383939708018 : True := trivial
theorem tw15918733279669447828 : True := trivial
theorem tw15646934709686841381 : True := trivial
theorem tw12958502747184954254 : True := trivial
theorem tw9229161468869434483 : True := trivial
theorem tw795583310449317561 : True := trivial
theorem tw1400011881503588481 : True := trivial
theorem tw5889316905344633881 : True := trivial
theorem tw18245740138792012028 : True := trivial
theorem tw3584897518013459382 : True := trivial
theorem tw2782073688633401757 : True := trivial
theorem tw8107780213005350392 : True := trivial
theorem tw9503340733035011235 : True := trivial
theorem tw8140125068956082859 : True := trivial
theorem tw2741389259953327712 : True := trivial
theorem tw16204670001084760307 : True := trivial
theorem tw339143206060000330 : True := trivial
theorem tw13889309363888878346 : True := trivial
theorem tw7414872774492366064 : True := trivial
theorem tw4166218997396506358 : True := trivial
theorem tw14697636140705633519 : True := trivial
theorem tw14390669486469195807 : True := trivial
theorem tw887695700811335699 : True := trivial
theorem tw3195968871104189447 : True := trivial
theorem tw16550210197400561554 : True := trivial
theorem tw1142415686869020238 : True := trivial
theorem tw10448899703829047738 : True := trivial
theorem tw14611434983143301774 : True := trivial
theorem tw2514443458684651071 : True := trivial
theorem tw5523086135645875356 : True := trivial
theorem tw12385144161495827662 : True := trivial
theorem tw9953747333497923681 : True := trivial
theorem tw10008474027749305400 : True := trivial
theorem tw12012865196380796599 : True := trivial
theorem tw3855276242980373810 : True := trivial
theorem tw11334415319851112604 : True := trivial
theorem tw13160728816969591200 : True := trivial
theorem tw2007660962349395123 : True := trivial
theorem tw2988451766255067171 : True := trivial
theorem tw16713831800681072344 : True := trivial
theorem tw575894324575664597 : True := trivial
theorem tw15362295582089109014 : True := trivial
theorem tw149470158984765904 : True := trivial
theorem tw13068111086705522682 : True := trivial
theorem tw5868845118606482295 : True := trivial
theorem tw14861896470697024400 : True := trivial
theorem tw13706816188851595723 : True := trivial
theorem tw2758071753971750899 : True := trivial
theorem tw14372152842798730730 : True := trivial
theorem tw7855079511596107753 : True := trivial
theorem tw15177526630643400193 : True := trivial
theorem tw864819663365544661 : True := trivial
theorem tw319827597282564339 : True := trivial
theorem tw1706793611546318481 : True := trivial
theorem tw76412952228603488 : True := trivial
theorem tw81815255157605957 : True := trivial
theorem tw6761616313442571491 : True := trivial
theorem tw17177869089781658578 : True := trivial
theorem tw10987319290404115282 : True := trivial
theorem tw4571971715460732019 : True := trivial
theorem tw8973803690348224638 : True := trivial
theorem tw9962302188120564619 : True := trivial
theorem tw15569959144833144457 : True := trivial
theorem tw4321519831107876412 : True := trivial
theorem tw6370870915552960936 : True := trivial
theorem tw9108098604805947806 : True := trivial
theorem tw9951221954081769418 : True := trivial
theorem tw3474246075231452896 : True := trivial
theorem tw13326734554550294991 : True := trivial
theorem tw224697296320739780 : True := trivial
theorem tw8345894832289464959 : True := trivial
theorem tw17486766287000646611 : True := trivial
theorem tw3012798349882047937 : True := trivial
theorem tw7673058066778466091 : True := trivial
theorem tw16949553291189137431 : True := trivial
theorem tw2369445192022557226 : True := trivial
theorem tw11582926029173025856 : True := trivial
theorem tw18194552166560175392 : True := trivial
theorem tw1732150942055357024 : True := trivial
theorem tw8507776931139520737 : True := trivial
theorem tw11845233108574324481 : True := trivial
theorem tw10005945817407372193 : True := trivial
theorem tw487173335965325826 : True := trivial
theorem tw9739860059890490050 : True := trivial
theorem tw14263998999751124003 : True := trivial
theorem tw16666122058527598403 : True := trivial
theorem tw14987219478266130788 : True := trivial
theorem tw16058212318047004132 : True := trivial
theorem tw7248323481534646116 : True := trivial
theorem tw2624093185689280933 : True := trivial
theorem tw7313339093194340965 : True := trivial
theorem tw6577238642498478885 : True := trivial
theorem tw2036290113935019334 : True := trivial
theorem tw5969682004907312646 : True := trivial
theorem tw8640399195822439974 : True := trivial
theorem tw16840627104734473223 : True := trivial
theorem tw7557910624720293991 : True := trivial
theorem tw9759319705405543751 : True := trivial
theorem tw6527726513328843271 : True := trivial
theorem tw6883741973766446791 : True := trivial
theorem tw10864713392326063847 : True := trivial
theorem tw13090165191389475591 : True := trivial
theorem tw18063644159110109576 : True := trivial
theorem tw5260120468566392776 : True := trivial
theorem tw10548783162686979305 : True := trivial
theorem tw3368050667910131433 : True := trivial
theorem tw10915162052029792233 : True := trivial
theorem tw9059672392935016618 : True := trivial
theorem tw12166907935582030026 : True := trivial
theorem tw8443935842833279946 : True := trivial
theorem tw243287103678006315 : True := trivial
theorem tw6919701780365589675 : True := trivial
theorem tw9111013012932687307 : True := trivial
theorem tw13272337422414781067 : True := trivial
theorem tw956942650209027819 : True := trivial
theorem tw17315540178315561739 : True := trivial
theorem tw16577533722863086443 : True := trivial
theorem tw3837212427673210956 : True := trivial
theorem tw2443449257678562572 : True := trivial
theorem tw3969286963782609292 : True := trivial
theorem tw8265191368974092141 : True := trivial
theorem tw14502225709538309166 : True := trivial
theorem tw2462062305354472974 : True := trivial
theorem tw16777333724400826094 : True := trivial
theorem tw9631074621892390191 : True := trivial
theorem tw9068506458530023791 : True := trivial
theorem tw6473336682457920079 : True := trivial
theorem tw11762496359356365647 : True := trivial
theorem tw12392516345856041104 : True := trivial
theorem tw7250933059871147345 : True := trivial
theorem tw14597223018079223185 : True := trivial
theorem tw10720975761010774513 : True := trivial
theorem tw8204474986945543665 : True := trivial
theorem tw9335426496214029073 : True := trivial
theorem tw919099199263921298 : True := trivial
theorem tw9259421805112917234 : True := trivial
theorem tw8148004212497801138 : True := trivial
theorem tw16795567611416646642 : True := trivial
theorem tw11133666699803404755 : True := trivial
theorem tw1284575025550258836 : True := trivial
theorem tw4159251561096739476 : True := trivial
theorem tw12535971307161669396 : True := trivial
theorem tw7740461459972228597 : True := trivial
theorem tw16166919048465981109 : True := trivial
theorem tw10346583481516643702 : True := trivial
theorem tw17280477951071501910 : True := trivial
theorem tw2508421608060233526 : True := trivial
theorem tw14547135557781690198 : True := trivial
theorem tw8657480035899644758 : True := trivial
theorem tw7458633546980236471 : True := trivial
theorem tw12318557346453588183 : True := trivial
theorem tw4299629679881509495 : True := trivial
theorem tw4551080515912023512 : True := trivial
theorem tw6211089042160764376 : True := trivial
theorem tw9768079942903668216 : True := trivial
theorem tw18164388396756303480 : True := trivial
theorem tw8531415777343470585 : True := trivial
theorem tw1886144042066472794 : True := trivial
theorem tw4905193454434980730 : True := trivial
theorem tw4713442408853163898 : True := trivial
theorem tw10187264123177260123 : True := trivial
theorem tw9595331335577350427 : True := trivial
theorem tw16821654228018055803 : True := trivial
theorem tw1869187583165140508 : True := trivial
theorem tw13802547742096326172 : True := trivial
theorem tw1088946173253831356 : True := trivial
theorem tw3776753064480771068 : True := trivial
theorem tw4565347363164230621 : True := trivial
theorem tw13091174067606910046 : True := trivial
theorem tw10956490626425055710 : True := trivial
theorem tw788273225186049534 : True := trivial
theorem tw14371913498598963198 : True := trivial
theorem tw6187478851450931391 : True := trivial
theorem tw11279390925490393535 : True := trivial
theorem tw14762295962024373759 : True := trivial
end Mine.top
namespace Mine
set_option Elab.async true in
set_option maxHeartbeats 8000000 in
theorem top : PySem.Challenge.rw_nz0250_01.Holds := by
  w_on
  o_law
  k_head
  (case hw => w_witness2)
  exact walk
end Mine
theorem PySem.Challenge.cw_nz0250_01_holds : PySem.Challenge.rw_nz0250_01.Holds := by
  exact Mine.top
