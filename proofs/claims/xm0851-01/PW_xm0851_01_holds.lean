import PyProof.Rows.All
import Wide.All
import OpenK.AllK
import Wide.FinOn
import Lean
import PySem.Challenge.RW_xm0851_01
set_option Elab.async false
set_option maxRecDepth 100000
set_option linter.unusedVariables false
local macro_rules | `(tactic| walk_at "o") => `(tactic| first | lia | omega)
namespace Mine
open PySem PySem.W PySem.Calls PyProof.Rows
def cleanCode : Code → Bool
  | .builtin id _ => !Builtin.Bytes.decodersThatHold.contains id && !guardIds.contains id
  | _ => true
def Clean (Γ : Ctx) : Prop := cleanCode Γ.code = true ∧ ∀ x ∈ Γ.below, cleanCode x.1 = true
def CleanB (Γ : Ctx) : Prop := ∀ x ∈ Γ.below, cleanCode x.1 = true
theorem Clean.enter {Γ : Ctx} (h : Clean Γ) (c : Code) (hd : Option Value) (p : Pos) : CleanB (Γ.enter c hd p) := by
  intro x hx
  rcases List.mem_cons.mp hx with rfl | hx
  · exact h.1
  · exact h.2 x hx
def wpS {α : Type} (M : Model) (A : Around) (t : Sem α) (Q : α → Shared → Prop) (E : Value → Shared → Prop) (s : Shared) : Prop :=
  ∀ Γ p, Γ.In A → Clean Γ → Sem.wp M Γ t (fun a _ s' => Q a s') (fun e _ s' => E e s') p s
def codeS (M : Model) (A : Around) (c : Code) (R : Result → Shared → Prop) (s : Shared) : Prop :=
  ∀ Γ p, Γ.code = c → Γ.Below A → CleanB Γ → wpCode M Γ R p s
section
variable {α β : Type} {M : Model} {A : Around} {E : Value → Shared → Prop} {s : Shared}
theorem wpS_of {t : Sem α} {Q : α → Shared → Prop} (h : wpAny M A t Q E s) : wpS M A t Q E s := fun Γ p hΓ _ => h Γ p hΓ
theorem codeS_of {c : Code} {R : Result → Shared → Prop} (h : codeAny M A c R s) : codeS M A c R s := fun Γ p hc hΓ _ => h Γ p hc hΓ
theorem wpS_pure {a : α} {Q : α → Shared → Prop} (h : Q a s) : wpS M A (pure a) Q E s := fun _ _ _ _ => h
theorem wpS_mono {t : Sem α} {Q Q' : α → Shared → Prop} {E' : Value → Shared → Prop} (h : wpS M A t Q E s)
    (hQ : ∀ a s, Q a s → Q' a s) (hE : ∀ e s, E e s → E' e s) : wpS M A t Q' E' s :=
  fun Γ p hΓ hc => Sem.wp_mono M Γ t (fun a _ s => hQ a s) (fun e _ s => hE e s) p s (h Γ p hΓ hc)
theorem wpS_bind {m : Sem α} {f : α → Sem β} {Q : β → Shared → Prop} (h : wpS M A m (fun a s' => wpS M A (f a) Q E s') E s) : wpS M A (m >>= f) Q E s := fun Γ p hΓ hc => by
  rw [Sem.wp_bind']
  exact Sem.wp_mono M Γ m (fun a p' s' h' => h' Γ p' hΓ hc) (fun _ _ _ h' => h') p s (h Γ p hΓ hc)
theorem wpS_bindL {m : Sem α} {f : α → Sem β} {Q : β → Shared → Prop} (h : wpAny M A m (fun a s' => wpS M A (f a) Q E s') E s) : wpS M A (m >>= f) Q E s := wpS_bind (wpS_of h)
theorem wpS_tryCatch {m : Sem α} {k : Value → Sem α} {Q : α → Shared → Prop} (h : wpS M A m Q (fun e s' => wpS M A (k e) Q E s') s) : wpS M A (tryCatch m k) Q E s := fun Γ p hΓ hc => by
  rw [Sem.wp_tryCatch']
  exact Sem.wp_mono M Γ m (fun _ _ _ h' => h') (fun e p' s' h' => h' Γ p' hΓ hc) p s (h Γ p hΓ hc)
theorem wpS_onRaise {m : Sem α} {k : Value → Sem Unit} {Q : α → Shared → Prop}
    (h : wpS M A m Q (fun e s' => wpS M A (k e) (fun _ s'' => E e s'') E s') s) : wpS M A (m.onRaise k) Q E s := fun Γ p hΓ hc => by
  rw [Sem.wp_onRaise]
  exact Sem.wp_mono M Γ m (fun _ _ _ h' => h') (fun e p' s' h' => h' Γ p' hΓ hc) p s (h Γ p hΓ hc)
theorem wpS_attempt {m : Sem α} {Q : Except Value α → Shared → Prop} (h : wpS M A m (fun a => Q (.ok a)) (fun e => Q (.error e)) s) : wpS M A m.attempt Q E s := fun Γ p hΓ hc => by
  rw [Sem.wp_attempt]; exact h Γ p hΓ hc
theorem wpS_holding {vs : List Value} {m : Sem α} {Q : α → Shared → Prop} (h : wpS M A m Q E s) : wpS M A (holding vs m) Q E s := fun Γ p hΓ hc => by
  rw [Sem.wp_holding]; exact h Γ p hΓ hc
theorem wpS_keep {vs : List Value} {m : Sem α} {Q : α → Shared → Prop} (h : wpS M A m Q E s) : wpS M A (m.keep vs) Q E s := fun Γ p hΓ hc => by
  rw [Sem.wp_keep]; exact h Γ p hΓ hc
theorem wpS_standAt {pos : Pos} {Q : Unit → Shared → Prop} (h : Q () s) : wpS M A (standAt pos) Q E s := wpS_of (wpAny_standAt h)
theorem wpS_point {Q : Unit → Shared → Prop} (h : Q () s) : wpS M A point Q E s := wpS_of (wpAny_point h)
theorem wpS_rule {tag : String} {Q : Unit → Shared → Prop} (h : Q () s) : wpS M A (rule tag) Q E s := wpS_of (wpAny_rule h)
theorem wpS_of_eq {t : Sem α} {a : α} {Q : α → Shared → Prop} (e : t = pure a) (h : Q a s) : wpS M A t Q E s := e ▸ wpS_pure h
theorem wpS_operate {vs : List Value} {m : Sem Value} {Q : Value → Shared → Prop} (h : wpS M A m Q E s) : wpS M A (operate vs m) Q E s := fun Γ p hΓ hc => by
  rw [Sem.wp_operate]; exact h Γ p hΓ hc
theorem wpS_load {a : Addr} {o : Obj} {Q : Obj → Shared → Prop} (ho : s.heap.get? a = some o) (h : Q o s) : wpS M A (load a) Q E s := wpS_of (wpAny_load ho h)
theorem looksS {t : Sem α} {r : α} {Q : α → Shared → Prop} (x : Looks M s.heap t r) (q : Q r s) : wpS M A t Q E s := wpS_of (x.here q)
theorem codeS_mono {c : Code} {R R' : Result → Shared → Prop} (h : codeS M A c R s) (hR : ∀ r s, R r s → R' r s) : codeS M A c R' s :=
  fun Γ p hc hΓ hn => wpCode_mono hR (h Γ p hc hΓ hn)
theorem wpS_run {c : Code} {h : Option Value} {Q : Flow → Shared → Prop}
    (hc : codeS M (A.mark h) c (fun r s' => match r with | .ok f => Q f s' | .error e => E e s') s) (hnb : h ≠ some byPass := by intro x; cases x) : wpS M A (run c h) Q E s :=
  fun Γ p hΓ hn => by rw [Sem.wp_run]; exact hc _ p rfl (hΓ.enter c h p hnb) (hn.enter c h p)
theorem wpS_runValue {c : Code} {Q : Value → Shared → Prop}
    (hc : codeS M A c (fun r s' => match r with | .ok (.ret v) => Q v s' | .ok _ => False | .error e => E e s') s) : wpS M A (runValue c) Q E s := fun Γ p hΓ hn => by
  rw [Sem.wp_runValue]; exact hc _ p rfl (hΓ.enter c none p (by intro x; cases x)) (hn.enter c none p)
theorem wpS_call {f : Value} {pos : List Value} {kw : List (Str × Value)} {Q : Value → Shared → Prop}
    (hc : codeS M A (.call f ⟨pos, kw⟩) (fun r s' => match r with | .ok (.ret v) => Q v s' | .ok _ => False | .error e => E e s') s) : wpS M A (call f pos kw) Q E s := wpS_runValue hc
theorem codeS_of_tree {c : Code} {R : Result → Shared → Prop} (hcl : cleanCode c = true)
    (h : wpS M (A.under c) (M.den c) (fun fin s' => match fin with | .done f => R (.ok f) s' | .again c' => c'.quiet = true ∧ codeS M A c' R s') (fun e s' => R (.error e) s') s) : codeS M A c R s := fun Γ p hc hΓ hn => by
  rw [wpCode_iff_wp, hc]
  refine Sem.wp_mono M Γ _ (fun fin p' s' h' => ?_) (fun _ _ _ h' => h') p s (h Γ p (hc ▸ hΓ.in) ⟨by rw [hc]; exact hcl, hn⟩)
  cases fin with
  | done f => exact h'
  | again c' => exact ⟨h'.1, h'.2 (Γ.goto c') p' rfl (hΓ.goto c') hn⟩
theorem codeS_of_in1 {c : Code} {R : Result → Shared → Prop} (h : codeS M A.in1 c R s) : codeS M A c R s :=
  fun Γ p hc hΓ hn => h Γ p hc ⟨hΓ.1, hΓ.2.1, hΓ.2.2.1, hΓ.2.2.2.1, Nat.le_succ_of_le hΓ.2.2.2.2⟩ hn
theorem codeS_loop' {c : Code} {R : Result → Shared → Prop} (hq : c.quiet = true) (hcl : cleanCode c = true) (I : Nat → Shared → Prop)
    (turn : ∀ n s, I n s → wpS M (A.under c) (M.den c)
      (fun fin s' => match fin with | .done f => R (.ok f) s' | .again c' => (c' = c ∧ ∃ m, m < n ∧ I m s') ∨ (c'.quiet = true ∧ codeS M A c' R s')) (fun e s' => R (.error e) s') s)
    (n : Nat) (h : I n s) : codeS M A c R s :=
  Nat.strongRecOn (motive := fun n => ∀ s, I n s → codeS M A c R s) n (fun n ih s h => codeS_of_tree hcl (wpS_mono (turn n s h) (fun fin s' q => by
    cases fin with
    | done f => exact q
    | again c' => exact q.elim (fun q => by rw [q.1]; exact q.2.elim fun m q => ⟨hq, ih m q.1 s' q.2⟩) id) fun _ _ q => q)) s h
theorem codeS_loop {c : Code} {R : Result → Shared → Prop} (hq : c.quiet = true) (hcl : cleanCode c = true) (I : Nat → Shared → Prop)
    (turn : ∀ n s, I n s → wpS M (A.under c) (M.den c) (fun fin s' => match fin with | .done f => R (.ok f) s' | .again c' => c' = c ∧ ∃ m, m < n ∧ I m s') (fun e s' => R (.error e) s') s)
    (n : Nat) (h : I n s) : codeS M A c R s :=
  codeS_loop' hq hcl I (fun n s h => wpS_mono (turn n s h) (fun fin s' q => by
    cases fin with
    | done f => exact q
    | again c' => exact .inl q) fun _ _ q => q) n h
theorem clean_id {id : String} {args : Args} (h : cleanCode (.builtin id args) = true) : Builtin.Bytes.decodersThatHold.contains id = false ∧ guardIds.contains id = false := by
  have h : (!Builtin.Bytes.decodersThatHold.contains id && !guardIds.contains id) = true := h
  simpa only [Bool.and_eq_true, Bool.not_eq_true'] using h
theorem dfalse {c : Prop} [d : Decidable c] {t : c → Bool} {e : ¬c → Bool} (h : ¬c) (he : ∀ h, e h = false) : dite c t e = false := by rw [dif_neg h]; exact he h
theorem wpS_exported {A' : Around} {v : Value} {Q : Bool → Shared → Prop} (h : Q false s) : wpS M A' (Builtin.Bytes.exported v) Q E s := fun Γ p hΓ hc => by
  have hl : ∀ x ∈ (Γ.code, p) :: Γ.below, cleanCode x.1 = true := fun x hx => by
    rcases List.mem_cons.mp hx with rfl | hx
    · exact hc.1
    · exact hc.2 x hx
  have e : ∀ b : Bool, b = false → Q b s := fun b e => e ▸ h
  refine e (List.any ((Γ.code, p) :: Γ.below) _) (List.any_eq_false.mpr fun x hx => ?_)
  have cx := hl x hx
  clear hl hx e h hc hΓ
  obtain ⟨c, p'⟩ := x
  cases c with
  | builtin id args =>
    have cc := clean_id cx
    have n (y : String) (m : guardIds.contains y = true) : ¬ id = y := fun e => by rw [e, m] at cc; cases cc.2
    rw [Bool.not_eq_true]
    delta Builtin.Bytes.exported.match_1 Builtin.Bytes.exported._sparseCasesOn_1
    refine dfalse (n _ (by decide +kernel)) fun _ => dfalse (n _ (by decide +kernel)) fun _ => dfalse (n _ (by decide +kernel)) fun _ => dfalse (n _ (by decide +kernel)) fun _ => dfalse (n _ (by decide +kernel)) fun _ => ?_
    have c1 := cc.1
    obtain ⟨ps, kw⟩ := args
    cases ps with
    | nil => rfl
    | cons x y => exact (congrArg _ c1).trans (Bool.and_false _)
  | _ => exact Bool.false_ne_true
end
end Mine
section
open PySem PySem.W PySem.Calls PyProof.Rows
namespace Mine
theorem ran {prog : Program} {w : World} {t : Sem Fin} {s : Shared} {P : Result → Shared → Prop} (z : s.asleep)
    (h : wpS (model prog w) callerA t (fun fin a => ∃ f, fin = .done f ∧ P (.ok f) a ∧ AllBare a.gens) (fun e a => P (.error e) a ∧ AllBare a.gens) s) :
    ∃ r b, P r b ∧ ∃ n a, a.forget = b.forget ∧ a.heap.life = s.heap.life ∧ schedN (denote table) prog w n (.single s ⟨t, .builtin "claim.caller" {}, default, []⟩) = .halted (outcomeOf r) a := by
  have g := h _ default caller_in ⟨by decide +kernel, fun _ q => nomatch q⟩
  obtain ⟨n, r, b, a, h1, h2, h3, h4⟩ := wp_halts_full (M := model prog w) (R := P) z (Sem.wp_mono _ _ _ (fun fin _ a q => by
    obtain ⟨f, rfl, q, u⟩ := q
    exact ⟨q, leftWithCleanup_false_of_bare u⟩) (fun _ _ _ q => ⟨q.1, leftWithCleanup_false_of_bare q.2⟩) _ _ g)
  exact ⟨r, b, h4, n, a, h3, runN_life _ _ _ h2, h1⟩
abbrev WalkS (q : Program) (loose : List Str) (XP : (Str → Option Value) → Heap → Prop) (YP : World → Heap → Prop) (r : RowW) (d : DefRec) (kwd : List (Str × Expr)) : Prop :=
  ∀ (w : World) (s₀ s₁ : Shared) (mg mb : Str → Option Value) (G : Ground q loose r.records XP w s₀ mg mb s₁.heap) (y : YP w s₁.heap) (a : Addr) (hmg : mg d.name = some (.ref a)) (hg : s₁.gens = #[])
    (args : List WData) (vals : List Value) (as : List Addr) (hpre : r.claim.pre args = true) (hlay : WData.layableAll args = true) (hrd : ReadsAllW r.records (classAt s₀.heap) s₁.heap vals args as) (hwl : WellAll w.params s₁.heap vals args) (hlo : ∀ a ∈ as, (a == sysModules) = false),
    wpS (model r.prog w) callerA (PySem.call (.ref a) vals) (fun v => GoodWG r.claim (classAt s₀.heap) (ExcName.means s₀.heap) args s₁ (.ok (.ret v))) (fun e => GoodWG r.claim (classAt s₀.heap) (ExcName.means s₀.heap) args s₁ (.error e)) s₁
theorem parted {q : Program} {loose : List Str} {XP : (Str → Option Value) → Heap → Prop} {R : WRecords} {w : World} {s : Shared} {mg mb : Str → Option Value}
    (G : Ground q loose [] (fun mg h => XP mg h ∧ RecFacts R h) w s mg mb s.heap) : RecFacts R s.heap ∧ Ground q loose [] XP w s mg mb s.heap :=
  ⟨G.X.2, { G with X := G.X.1 }⟩
abbrev Left (r : OpenRow) (kps : List Str) (h₀ h : Heap) : Prop := r.writes = true → namesKept r.prog kps h₀ h ∧ ∀ x ∈ r.toRowW.records, ∀ a, classAt h₀ x.1 = some a → recordClass h a x.1 (x.2.map (·.1)) = true
noncomputable abbrev asked (r : OpenRow) (vs : List Value) : Sem PySem.Fin := do
  match ← nsGet mainNs r.name with
  | some f => do ret (← PySem.call f vs)
  | none => unsupported "claim.caller:no-such-global"
abbrev Reach (r : OpenRow) (kps : List Str) (w : World) (s : Shared) (ord : List DictEntry → List DictEntry) (args : List WData) (p : List Value × Shared × Result × Shared × Nat × Shared) : Prop :=
  layAllW r.toRowW.records (classAt s.heap) w.params ord args s = some (p.1, p.2.1) ∧ p.2.2.2.2.2.forget = p.2.2.2.1.forget ∧ p.2.2.2.2.2.heap.life = s.heap.life ∧
    schedN (denote table) r.prog w p.2.2.2.2.1 (.single p.2.1 ⟨asked r p.1, .builtin "claim.caller" {}, default, []⟩) = .halted (outcomeOf p.2.2.1) p.2.2.2.2.2 ∧
    r.toRowW.claim.Ends s args p.1 p.2.1 p.2.2.1 p.2.2.2.1 ∧ p.2.2.2.1.os = s.os ∧ Left r kps s.heap p.2.2.2.1.heap
theorem calls_of {r : OpenRow} {w : World} {s : Shared} {kps : List Str} {free : Addr → Prop} {gens : Prop} (e : s.gens = #[])
    (h : ∀ args, r.toRowW.claim.pre args = true → WData.layableAll args = true → ∀ ord : List DictEntry → List DictEntry, (∀ l, (ord l).Perm l) → ∃ p, Reach r kps w s ord args p) :
    r.toRowW.claim.CallFrom (fun vs => ⟨asked r vs, .builtin "claim.caller" {}, default, []⟩) w free gens (Left r kps s.heap) s := by
  intro args hpre hlay ord hord
  obtain ⟨p, q⟩ := h args hpre hlay ord hord
  have f := Shared.forget_eq q.2.1
  refine ⟨p.1, p.2.1, q.1, p.2.2.2.2.1, _, p.2.2.2.2.2, q.2.2.2.1, ?_, fun _ i y hy => ?_, f.1 ▸ q.2.2.2.2.2.2, congrArg _ q.2.2.1, Shared.rest_eq (f.2.2.2.1.trans q.2.2.2.2.2.1)⟩
  · exact (q.2.2.2.2.1.congr f.1).imp (fun j => j.imp fun v j => ⟨congrArg outcomeOf j.1, j.2.1, j.2.2.1, j.2.2.2.1, fun b o m _ => j.2.2.2.2.1 b o m, j.2.2.2.2.2⟩)
      fun j => j.imp fun v j => j.imp fun o j => j.imp fun cls j => ⟨congrArg outcomeOf j.1, j.2.1, j.2.2.1, j.2.2.2.1, j.2.2.2.2.1, fun b o m _ => j.2.2.2.2.2 b o m⟩
  · rw [e] at hy; cases hy
theorem calls {r : OpenRow} {q : Program} {loose : List Str} {XP : (Str → Option Value) → Heap → Prop} {YP : World → Heap → Prop} {d : DefRec} {kwd : List (Str × Expr)} {w : World} {s₀ s : Shared} {kps : List Str}
    (hYk : ∀ h h', YP w h → (∀ b o, h.get? b = some o → h'.get? b = some o) → YP w h') (hXk : ∀ mg h h', XP mg h → (∀ b o, h.get? b = some o → h'.get? b = some o) → XP mg h')
    (hdef : defOf q r.name = some (d, kwd)) (hwr : (!r.writes || r.records.isEmpty) = true) (hfr : frees r.toRowW = true) (hwi : r.within.isEmpty = true)
    (call : WalkS q loose XP YP r.toRowW d kwd) (T : TopRan r.prog w s₀ s) (z : s.asleep) (e : s.gens = #[]) (hns : s.heap.isNs mainGlobals = true)
    (G : Ground q loose r.toRowW.records XP w s (s.heap.nsMap mainGlobals) (s.heap.nsMap builtinsNs) s.heap) (y : YP w s.heap)
    {args : List WData} (hpre : r.toRowW.claim.pre args = true) (hlay : WData.layableAll args = true) {ord : List DictEntry → List DictEntry} (hord : ∀ l, (ord l).Perm l) : ∃ p, Reach r kps w s ord args p := by
  obtain ⟨⟨vs, s₁⟩, hl⟩ := Option.isSome_iff_exists.mp (layAllW_isSome (P := w.params) (ord := ord) G.has args r.toRowW.args s (pre_splitW hpre).1)
  have k := layAllW_keeps _ _ _ hl
  have al := layAllW_rest _ _ _ hl
  obtain ⟨as, i1, i2, i3⟩ := reads_layAllW hord _ _ _ hl hlay s₁.heap fun _ _ x => x
  have L : Laid r.toRowW.records w s s₁ args vs as := { laid := ⟨ord, hord, hl⟩, reads := i1, within := i2, old := i3, keeps := k, gens := al.1.trans e, os := al.2.2.1 }
  have G' := G.keeps hXk k
  obtain ⟨a, ha⟩ := G'.fn hdef
  have hmg : s.heap.nsMap mainGlobals r.name = some (.ref a) := by obtain ⟨_, _, _, _, _, _, h, _⟩ := ha; exact h
  have c := call w s s₁ _ _ G' (hYk _ _ y k) a (defOf_name hdef ▸ hmg) L.gens args vs as hpre hlay L.reads L.well (L.low G.low)
  have fp := frees_parts hfr
  have fin : ∀ (x : Result) (b : Shared), GoodWG r.toRowW.claim (classAt s.heap) (ExcName.means s.heap) args s₁ x b → (r.toRowW.claim.Ends s args vs s₁ x b ∧ b.os = s.os ∧ Left r kps s.heap b.heap) ∧ AllBare b.gens := fun x b g =>
    have j := g.laid (c := r.toRowW.claim) fp.1 (List.isEmpty_iff.mp hwi) (ident_freeW fp.2.1 fp.2.2.1 fp.2.2.2.1) L
    ⟨⟨j.1, j.2.1, fun q => ⟨namesKept_of T hns _ k g.2.1.old, noTable hwr q⟩⟩, j.2.2⟩
  obtain ⟨x, b, j, n, a', hf, hlife, hrun⟩ := ran (prog := r.prog) (w := w) (t := asked r vs) (P := fun x b => r.toRowW.claim.Ends s args vs s₁ x b ∧ b.os = s.os ∧ Left r kps s.heap b.heap) (Shared.asleep_of_life al.2.2.2 z) (wpS_bindL (wpAny_nsGet G'.T.g (by
    rw [hmg]
    exact wpS_bind (wpS_mono c (fun v b g => wpS_pure ⟨_, rfl, fin _ b g⟩) fun e b g => fin _ b g))))
  exact ⟨(vs, s₁, x, b, n, a'), hl, hf, hlife.trans al.2.2.2, hrun, j⟩
end Mine
theorem Hd.PySem.W.holds_open {r : OpenRow} {q : Program} {loose : List Str} {Xt : Shared → Bool} {XP : (Str → Option Value) → Heap → Prop} {α : Type} {Yf : Shared → α} {Ya : World → α} {YP : World → Heap → Prop} {d : DefRec} {kwd : List (Str × Expr)} {N : Nat}
    (left : LeftO r.prog q loose Xt Yf Ya N) (hY : ∀ w s, Yf s = Ya w → YP w s.heap) (hYk : ∀ w h h', YP w h → (∀ b o, h.get? b = some o → h'.get? b = some o) → YP w h')
    (hX : ∀ s, Xt s = true → XP (s.heap.nsMap mainGlobals) s.heap) (hXk : ∀ mg h h', XP mg h → (∀ b o, h.get? b = some o → h'.get? b = some o) → XP mg h')
    (hdef : defOf q r.name = some (d, kwd)) (hp : r.prog.theDef r.name = some (d.params, d.body, d.scope)) (hk : kwWritten? d.params.kwonlyargs d.params.kw_defaults = some kwd) (hRf : ∀ s, Xt s = true → RecFacts r.records s.heap) (hwr : (!r.writes || r.records.isEmpty) = true)
    (k1 : r.wellSaid = true) (ok : (chainsOk q && opensWell r.prog && (frees r.toRowW && r.within.isEmpty)) = true) (hb : r.prog.bare) (hw : r.toRowW.promised)
    (call : Mine.WalkS q loose XP YP r.toRowW d kwd) : r.Holds := by
  simp only [Bool.and_eq_true] at ok
  obtain ⟨⟨hch, hop⟩, hfr, hwi⟩ := ok
  have hm := (frees_parts hfr).2.2.2.2
  refine ⟨k1, hw, ⟨hb, hop, by show List.map _ r.toRowW.makers = []; rw [hm]; rfl⟩, hw.witness, fun w => ?_⟩
  obtain ⟨e1, e2⟩ := left.behind (XP := fun mg h => XP mg h ∧ RecFacts r.toRowW.records h) (fun s q => ⟨hX s q, hRf s q⟩) hch w
  refine ⟨e1, fun s' q => ?_⟩
  obtain ⟨s₀, x1, x2, s, T, z, x3, hns, G, y⟩ := e2 s' q
  obtain ⟨RF, G⟩ := Mine.parted G
  refine ⟨s₀, x1, x2, s, T, fun n hn => ?_, RF.1, RF.2.1, ?_⟩
  · have hn : n = r.name := by split at hn <;> simp_all
    rw [hn]
    exact pinned_of_view hns G hdef hp hk
  · have e := Array.eq_empty_of_size_eq_zero (beq_iff_eq.mp x3)
    exact Mine.calls_of e fun _ hpre hlay _ hord => Mine.calls (hYk w) hXk hdef hwr hfr hwi call T z e hns (RF.ground G) (hY w s y) hpre hlay hord
end
section
open PySem PySem.W PySem.Calls PyProof.Rows
set_option maxHeartbeats 0
theorem Hk.PySem.W.holds_open {r : OpenRow} {q : Program} {loose : List Str} {Xt : Shared → Bool} {XP : (Str → Option Value) → Heap → Prop} {α : Type} {Yf : Shared → α} {Ya : World → α} {YP : World → Heap → Prop} {N : Nat}
    (left : False) (hY : ∀ w s, Yf s = Ya w → YP w s.heap) (hYk : ∀ w h h', YP w h → (∀ b o, h.get? b = some o → h'.get? b = some o) → YP w h')
    (hX : ∀ s, Xt s = true → XP (s.heap.nsMap mainGlobals) s.heap) (hXk : ∀ mg h h', XP mg h → (∀ b o, h.get? b = some o → h'.get? b = some o) → XP mg h')
    (hdef : 0 = 0) (hp : 0 = 0) (hk : 0 = 0) (hRf : ∀ s, Xt s = true → RecFacts r.records s.heap) (hwr : 0 = 0)
    (k1 : True) (ok : True) (hb : r.prog.bare) (hw : True)
    (call : True) : r.Holds := left.elim
namespace Hk
theorem k : False → OpenRow.Holds PySem.Challenge.rw_xm0851_01.row := by
  intro no
  have h2 : False := ?hl
  rotate_left
  exact no
  clear h2
  k_head
  case hw => trivial
  trivial
end Hk
end
namespace Mine
open PySem PySem.W PySem.Calls PyProof.Rows
inductive V where
  | unset
  | none
  | bool (b : Bool)
  | int (i : Int)
  | bytes (b : List UInt8)
  | str (x : Str)
  | cst (v : Value)
noncomputable def V.At : V → Value → Prop
  | .unset, _ => False
  | .none, u => u = .none
  | .bool b, u => u = .bool b
  | .int i, u => ∃ t, u = .int i t
  | .bytes b, u => ∃ t, u = .bytes b.toArray t
  | .str x, u => ∃ t, u = .str x t
  | .cst v, u => u = v
@[reducible] def V.ref (a : Addr) : V := .cst (.ref a)
noncomputable def LocAt : V → Option Value → Prop
  | .unset, _ => True
  | _, .none => False
  | v, some u => v.At u
noncomputable def AtAll : List V → List Value → Prop
  | [], [] => True
  | v :: vs, u :: us => v.At u ∧ AtAll vs us
  | _, _ => False
theorem atC {y : V} {ys : List V} {vs : List Value} (h : AtAll (y :: ys) vs) : ∃ u us, vs = u :: us ∧ y.At u ∧ AtAll ys us := by
  cases vs with
  | nil => exact h.elim
  | cons u us => exact ⟨u, us, rfl, h.1, h.2⟩
theorem len0 {α : Type} {l : List α} (h : l.length = 0) : l = [] := List.length_eq_zero_iff.mp h
theorem lenC {α : Type} {l : List α} {n : Nat} (h : l.length = n + 1) : ∃ a r, l = a :: r ∧ r.length = n := by
  cases l with
  | nil => cases h
  | cons a r => exact ⟨a, r, rfl, Nat.succ.inj h⟩
theorem at0 {vs : List Value} (h : AtAll [] vs) : vs = [] := by
  cases vs with
  | nil => rfl
  | cons u us => exact h.elim
theorem at1 {y : V} {vs : List Value} (h : AtAll [y] vs) : ∃ u, vs = [u] ∧ y.At u := by
  obtain ⟨u, us, rfl, h1, h2⟩ := atC h
  rw [at0 h2]; exact ⟨u, rfl, h1⟩
theorem at2 {y z : V} {vs : List Value} (h : AtAll [y, z] vs) : ∃ u v, vs = [u, v] ∧ y.At u ∧ z.At v := by
  obtain ⟨u, us, rfl, h1, h2⟩ := atC h
  obtain ⟨v, rfl, h3⟩ := at1 h2
  exact ⟨u, v, rfl, h1, h3⟩
inductive Ob where
  | inst (C dx : Addr) (fs : List (Str × V))
  | list (xs : List V)
  | arg (xs : List V)
  | tup (xs : List V)
  | ba (b : List UInt8)
  | cell (v : V)
  | rng (a b : Int)
  | rit (x left : Int)
  | lit (l : Addr) (i : Nat)
  | exc (C : Addr) (t : Option (Addr × Value))
  | ns
noncomputable abbrev Led := List (Addr × Ob)
noncomputable def EsAt : List (Str × V) → List DictEntry → Prop
  | [], [] => True
  | p :: fs, e :: es => (∃ t, e.key = .str p.1 t) ∧ p.2.At e.val ∧ EsAt fs es
  | _, _ => False
noncomputable def Ob.At (h : Heap) (a : Addr) : Ob → Prop
  | .inst C dx fs => h.get? a = some (instObj C dx) ∧ ∃ es n, h.get? dx = some (dictOf es n) ∧ EsAt fs es
  | .list xs => ∃ (us : List Value) (n : Nat), h.get? a = some ⟨.type "list", none, .seq us.toArray n, #[]⟩ ∧ AtAll xs us
  | .arg xs => ∃ us : List Value, h.IsList a us.toArray ∧ AtAll xs us
  | .tup xs => ∃ us : List Value, h.IsTuple a us.toArray ∧ AtAll xs us
  | .ba b => h.get? a = some ⟨.type "bytearray", none, .bytearray b.toArray 0, #[]⟩
  | .cell v => ∃ u, h.IsCell a u ∧ LocAt v u
  | .rng x y => ∃ t u v, IsRange h a x y 1 t u v
  | .rit x l => IsRangeIter h a x l 1
  | .lit l i => h.IsListIter a l i
  | .ns => ∃ m, h.Ns a m
  | .exc C none => ∃ o vs, h.get? a = some o ∧ o.cls = .ref C ∧ o.data = .fields vs ∧ vs[1]? = some .none
  | .exc C (some (T, v)) => ∃ o vs oT ts, h.get? a = some o ∧ o.cls = .ref C ∧ o.data = .fields vs ∧ vs[1]? = some (.ref T) ∧ h.get? T = some oT ∧ oT.data = .fields ts ∧ ts[3]? = some v
noncomputable def Ob.more : Ob → List Addr
  | .inst _ dx _ => [dx]
  | .exc _ (some (T, _)) => [T]
  | _ => []
noncomputable def addrs : Led → List Addr
  | [] => []
  | p :: l => p.1 :: (p.2.more ++ addrs l)
theorem mem_addrs {l : Led} {p : Addr × Ob} (h : p ∈ l) : ∀ a ∈ p.1 :: p.2.more, a ∈ addrs l := by
  induction l with
  | nil => cases h
  | cons q l ih =>
    intro a ha
    show a ∈ q.1 :: (q.2.more ++ addrs l)
    rcases List.mem_cons.mp h with rfl | h
    · rcases List.mem_cons.mp ha with rfl | ha
      · exact .head _
      · exact .tail _ (List.mem_append_left _ ha)
    · exact .tail _ (List.mem_append_right _ (ih h a ha))
theorem addrs_append (l l' : Led) : addrs (l ++ l') = addrs l ++ addrs l' := by
  induction l with
  | nil => rfl
  | cons p l ih => simp [addrs, ih]
structure Gx where
  prog : Program
  w : World
  K : Frag
  mg : Str → Option Value
  mb : Str → Option Value
  base : Heap
structure Gx.Ok (g : Gx) : Prop where
  K : g.K.In g.base
  mg : g.base.Ns mainGlobals g.mg
  mb : g.base.Ns builtinsNs g.mb
  lim : g.base.NoLimit
structure Fx where
  g : Gx
  h₀ : Heap
  W : List Addr
  A : Around
  n : Nat
  env : Env
  outer : List Env
  s₀ : Shared
  own : Bool := true
noncomputable def Fx.frs (c : Fx) : List Env := if c.own then c.env :: c.outer else c.outer
noncomputable def Fx.outs (c : Fx) : List Addr := c.outer.filterMap (·.frame)
theorem funFrames_not {h base : Heap} : ∀ {l : List Env}, h.FunFrames base l → ∀ b ∈ l.filterMap (·.frame), base.get? b = none
  | [], _, b, hb => by cases hb
  | env :: rest, ⟨_, ⟨L, o, hf, hn, _⟩, hr⟩, b, hb => by
    rw [List.filterMap_cons, hf] at hb
    rcases List.mem_cons.mp hb with rfl | hb
    · exact hn
    · exact funFrames_not hr b hb
noncomputable def KeepAt (c : Fx) (h : Heap) (b : Addr) (o : Obj) : Prop := ∃ o', h.get? b = some o' ∧ o'.data = o.data ∧ (b ∉ c.outs → o' = o)
theorem KeepAt.some {c : Fx} {h : Heap} {b : Addr} {o : Obj} (k : KeepAt c h b o) : ∃ o', h.get? b = Option.some o' := let ⟨o', e, _⟩ := k; ⟨o', e⟩
theorem KeepAt.to {c : Fx} {h h' : Heap} {b : Addr} {o : Obj} (k : KeepAt c h b o) (x : ∀ o', h.get? b = Option.some o' → h'.get? b = Option.some o') : KeepAt c h' b o := let ⟨o', e, r⟩ := k; ⟨o', x o' e, r⟩
noncomputable def Room (n : Nat) (A : Around) : Prop := A.depth + 8 * n < recursionLimit ∧ A.units + 40 * n < cLine ∧ A.handled = none
structure Fx.Ok (c : Fx) : Prop where
  g : c.g.Ok
  base : ∀ b o, c.g.base.get? b = some o → c.h₀.get? b = some o
  W : ∀ a ∈ c.W, c.g.base.get? a = none
  L : c.h₀.get? c.env.locals = none
  fn : c.env.scope.kind = .function
  glob : c.env.globals = mainGlobals
  bi : c.env.builtins = builtinsNs
  frame : c.own = true → c.env.frame = some c.env.locals
  room : Room c.n c.A
  A : c.A.frames = some c.frs
  out : c.h₀.FunFrames c.g.base c.outer
  outW : ∀ e ∈ c.outer, ∀ a ∈ c.W, e.frame ≠ some a
structure St where
  loc : List (Str × V)
  glo : List (Str × V)
  cel : List (Str × Addr)
  led : Led
noncomputable def GloOk (c : Fx) (p : Str × V) : Prop :=
  c.env.kindOf p.1 = some .globalImplicit ∧ (p.1 == ("__debug__" : Str)) = false ∧
    ((∃ u, c.g.mg p.1 = some u ∧ p.2.At u) ∨ (c.g.mg p.1 = none ∧ ∃ u, c.g.mb p.1 = some u ∧ p.2.At u))
noncomputable def CelOk (c : Fx) (p : Str × Addr) : Prop :=
  (c.env.kindOf p.1 = some .cell ∨ (c.env.kindOf p.1 = some .free ∧ (p.1 == ("__classdict__" : Str)) = false)) ∧ (p.1 == ("__debug__" : Str)) = false ∧ c.env.cells.lookup p.1 = some p.2
structure Rel (c : Fx) (σ : St) (s : Shared) : Prop where
  ok : c.Ok
  loc : ∃ m, s.heap.Ns c.env.locals m ∧ ∀ p ∈ σ.loc, LocAt p.2 (m p.1)
  kinds : ∀ p ∈ σ.loc, c.env.kindOf p.1 = some .local ∧ (p.1 == ("__debug__" : Str)) = false
  locnd : (σ.loc.map Prod.fst).Nodup
  glo : ∀ p ∈ σ.glo, GloOk c p
  cel : ∀ p ∈ σ.cel, CelOk c p
  led : ∀ p ∈ σ.led, p.2.At s.heap p.1
  nd : (c.env.locals :: addrs σ.led).Nodup
  own : ∀ a ∈ addrs σ.led, a ∈ c.W ∨ c.h₀.get? a = none
  keep : ∀ b o, c.h₀.get? b = some o → b ∉ c.W → KeepAt c s.heap b o
  same : s.gens = c.s₀.gens ∧ s.drawn = c.s₀.drawn ∧ s.os = c.s₀.os
theorem lt_of_at {h : Heap} {a : Addr} {o : Ob} (x : o.At h a) : ∀ b ∈ a :: o.more, (h.get? b).isSome = true := by
  intro b hb
  cases o with
  | inst C dx fs =>
    obtain ⟨e, es, n, hd, _⟩ := x
    rcases List.mem_cons.mp hb with rfl | hb
    · rw [e]; rfl
    · rcases List.mem_cons.mp hb with rfl | hb
      · rw [hd]; rfl
      · cases hb
  | list xs => obtain ⟨us, n, e, _⟩ := x; rcases List.mem_cons.mp hb with rfl | hb; · rw [e]; rfl
               · cases hb
  | arg xs => obtain ⟨us, ⟨o, e, _⟩, _⟩ := x; rcases List.mem_cons.mp hb with rfl | hb; · rw [e]; rfl
              · cases hb
  | tup xs => obtain ⟨us, ⟨o, e, _⟩, _⟩ := x; rcases List.mem_cons.mp hb with rfl | hb; · rw [e]; rfl
              · cases hb
  | ba b => rcases List.mem_cons.mp hb with rfl | hb
            · rw [show h.get? _ = _ from x]; rfl
            · cases hb
  | cell v => obtain ⟨u, ⟨o, e, _⟩, _⟩ := x; rcases List.mem_cons.mp hb with rfl | hb; · rw [e]; rfl
              · cases hb
  | rng y z => obtain ⟨t, u, v, e⟩ := x; rcases List.mem_cons.mp hb with rfl | hb; · rw [e]; rfl
               · cases hb
  | rit y z => rcases List.mem_cons.mp hb with rfl | hb
               · rw [show h.get? _ = _ from x]; rfl
               · cases hb
  | lit l i => obtain ⟨o, e, _⟩ := x; rcases List.mem_cons.mp hb with rfl | hb; · rw [e]; rfl
               · cases hb
  | ns => obtain ⟨m, o, _, _, e, _⟩ := x; rcases List.mem_cons.mp hb with rfl | hb; · rw [e]; rfl
          · cases hb
  | exc C t =>
    match t, x with
    | none, ⟨o, vs, e, _⟩ => rcases List.mem_cons.mp hb with rfl | hb; · rw [e]; rfl
                             · cases hb
    | some (T, v), ⟨o, vs, oT, ts, e, _, _, _, e', _⟩ =>
      rcases List.mem_cons.mp hb with rfl | hb
      · rw [e]; rfl
      · rcases List.mem_cons.mp hb with rfl | hb
        · rw [e']; rfl
        · cases hb
theorem at_of {h h' : Heap} {a : Addr} {o : Ob} (x : o.At h a) (k : ∀ b ∈ a :: o.more, ∀ ob, h.get? b = some ob → h'.get? b = some ob) : o.At h' a := by
  cases o with
  | inst C dx fs =>
    obtain ⟨e, es, n, hd, f⟩ := x
    exact ⟨k _ (.head _) _ e, es, n, k _ (.tail _ (.head _)) _ hd, f⟩
  | list xs => obtain ⟨us, n, e, f⟩ := x; exact ⟨us, n, k _ (.head _) _ e, f⟩
  | arg xs => obtain ⟨us, ⟨o, e, r⟩, f⟩ := x; exact ⟨us, ⟨o, k _ (.head _) _ e, r⟩, f⟩
  | tup xs => obtain ⟨us, ⟨o, e, r⟩, f⟩ := x; exact ⟨us, ⟨o, k _ (.head _) _ e, r⟩, f⟩
  | ba b => exact k _ (.head _) _ x
  | cell v => obtain ⟨u, ⟨o, e, r⟩, f⟩ := x; exact ⟨u, ⟨o, k _ (.head _) _ e, r⟩, f⟩
  | rng y z => obtain ⟨t, u, v, e⟩ := x; exact ⟨t, u, v, k _ (.head _) _ e⟩
  | rit y z => exact k _ (.head _) _ x
  | lit l i => obtain ⟨o, e, r⟩ := x; exact ⟨o, k _ (.head _) _ e, r⟩
  | ns => obtain ⟨m, o, es, ep, e, r⟩ := x; exact ⟨m, o, es, ep, k _ (.head _) _ e, r⟩
  | exc C t =>
    cases t with
    | none => obtain ⟨o, vs, e, r⟩ := x; exact ⟨o, vs, k _ (.head _) _ e, r⟩
    | some p =>
      obtain ⟨T, v⟩ := p
      obtain ⟨o, vs, oT, ts, e, r1, r2, r3, e', r4⟩ := x
      exact ⟨o, vs, oT, ts, k _ (.head _) _ e, r1, r2, r3, k _ (.tail _ (.head _)) _ e', r4⟩
section
variable {c : Fx} {σ : St} {s : Shared}
theorem Rel.keeps (R : Rel c σ s) {h' : Heap} {t : Tok} (k : ∀ b o, s.heap.get? b = some o → h'.get? b = some o) : Rel c σ { s with heap := h', toks := t } where
  ok := R.ok
  loc := let ⟨m, h, x⟩ := R.loc; ⟨m, h.keeps k, x⟩
  kinds := R.kinds
  locnd := R.locnd
  glo := R.glo
  cel := R.cel
  led := fun p hp => at_of (R.led p hp) fun b _ ob e => k b ob e
  nd := R.nd
  own := R.own
  keep := fun b o e hb => (R.keep b o e hb).to fun o' => k b o'
  same := R.same
theorem Rel.toks (R : Rel c σ s) {t : Tok} : Rel c σ { s with toks := t } := R.keeps (h' := s.heap) fun _ _ e => e
theorem Rel.base (R : Rel c σ s) : ∀ b o, c.g.base.get? b = some o → s.heap.get? b = some o := fun b o e => by
  obtain ⟨o', e', _, q⟩ := R.keep b o (R.ok.base b o e) fun hb => by rw [R.ok.W b hb] at e; cases e
  rw [e', q fun hb => by rw [funFrames_not R.ok.out b hb] at e; cases e]
theorem Rel.K (R : Rel c σ s) : c.g.K.In s.heap := R.ok.g.K.keeps R.base
theorem Rel.lim (R : Rel c σ s) : s.heap.NoLimit := R.ok.g.lim.keeps R.base
theorem nodup_append_iff {l l' : List Addr} : (l ++ l').Nodup ↔ l.Nodup ∧ l'.Nodup ∧ ∀ a ∈ l, ∀ b ∈ l', a ≠ b := List.nodup_append
theorem Rel.fresh (R : Rel c σ s) {a : Addr} {ob : Ob} {h' : Heap} {t : Tok} (k : ∀ b o, s.heap.get? b = some o → h'.get? b = some o)
    (new : ∀ b ∈ a :: ob.more, s.heap.get? b = none) (nd : (a :: ob.more).Nodup) (x : ob.At h' a) : Rel c { σ with led := (a, ob) :: σ.led } { s with heap := h', toks := t } := by
  have R' := R.keeps (t := t) k
  have old : ∀ b ∈ c.env.locals :: addrs σ.led, (s.heap.get? b).isSome = true := by
    intro b hb
    rcases List.mem_cons.mp hb with rfl | hb
    · obtain ⟨m, ⟨o, es, ep, e, _⟩, _⟩ := R.loc; rw [e]; rfl
    · have : ∀ l : Led, (∀ p ∈ l, p.2.At s.heap p.1) → ∀ b ∈ addrs l, (s.heap.get? b).isSome = true := by
        intro l
        induction l with
        | nil => intro _ b hb; cases hb
        | cons p l ih =>
          intro hl b hb
          rcases List.mem_cons.mp (show b ∈ p.1 :: (p.2.more ++ addrs l) from hb) with rfl | hb
          · exact lt_of_at (hl p (.head _)) _ (.head _)
          · rcases List.mem_append.mp hb with hb | hb
            · exact lt_of_at (hl p (.head _)) _ (.tail _ hb)
            · exact ih (fun q hq => hl q (.tail _ hq)) b hb
      exact this _ R.led b hb
  refine { R' with led := ?_, nd := ?_, own := ?_ }
  · intro p hp
    rcases List.mem_cons.mp hp with rfl | hp
    · exact x
    · exact R'.led p hp
  · show (c.env.locals :: a :: (ob.more ++ addrs σ.led)).Nodup
    have n1 := R.nd
    have ne : ∀ b ∈ a :: ob.more, ∀ b' ∈ c.env.locals :: addrs σ.led, b ≠ b' := fun b hb b' hb' e => by
      subst e; have := old b hb'; rw [new b hb] at this; cases this
    rw [List.nodup_cons] at n1 ⊢
    refine ⟨fun hm => ?_, ?_⟩
    · rcases List.mem_cons.mp hm with e | hm
      · exact ne a (.head _) _ (.head _) e.symm
      · rcases List.mem_append.mp hm with hm | hm
        · exact ne _ (.tail _ hm) _ (.head _) rfl
        · exact n1.1 hm
    · rw [← List.cons_append, nodup_append_iff]
      exact ⟨nd, n1.2, fun b hb b' hb' => ne b hb b' (.tail _ hb')⟩
  · intro b hb
    rcases List.mem_cons.mp (show b ∈ a :: (ob.more ++ addrs σ.led) from hb) with rfl | hb
    · by_cases q : b ∈ c.W
      · exact .inl q
      · refine .inr ?_
        cases e : c.h₀.get? b with
        | none => rfl
        | some o => obtain ⟨o', e', _⟩ := R.keep b o e q; rw [new b (.head _)] at e'; cases e'
    · rcases List.mem_append.mp hb with hb | hb
      · by_cases q : b ∈ c.W
        · exact .inl q
        · refine .inr ?_
          cases e : c.h₀.get? b with
          | none => rfl
          | some o => obtain ⟨o', e', _⟩ := R.keep b o e q; rw [new b (.tail _ hb)] at e'; cases e'
      · exact R.own b hb
noncomputable def Sub (l l' : Led) : Prop := ∃ rest, l.Perm (l' ++ rest)
theorem addrs_perm {l l' : Led} (p : l.Perm l') : (addrs l).Perm (addrs l') := by
  induction p with
  | nil => exact .refl _
  | cons x _ ih => exact .cons _ (.append_left _ ih)
  | swap x y l =>
    show (y.1 :: (y.2.more ++ (x.1 :: (x.2.more ++ addrs l)))).Perm (x.1 :: (x.2.more ++ (y.1 :: (y.2.more ++ addrs l))))
    rw [← List.cons_append, ← List.cons_append, ← List.cons_append, ← List.cons_append, ← List.append_assoc, ← List.append_assoc]
    exact .append_right _ List.perm_append_comm
  | trans _ _ a b => exact a.trans b
theorem Rel.sub (R : Rel c σ s) {led' : Led} (h : Sub σ.led led') : Rel c { σ with led := led' } s := by
  obtain ⟨rest, p⟩ := h
  have pa := addrs_perm p
  rw [addrs_append] at pa
  have nd := R.nd
  rw [List.nodup_cons] at nd
  have nd2 := (pa.nodup_iff).mp nd.2
  have sub : ∀ a ∈ addrs led', a ∈ addrs σ.led := fun a ha => pa.mem_iff.mpr (List.mem_append_left _ ha)
  refine { R with led := fun q hq => R.led q (p.mem_iff.mpr (List.mem_append_left _ hq)), nd := ?_, own := fun a ha => R.own a (sub a ha) }
  show (c.env.locals :: addrs led').Nodup
  rw [List.nodup_cons]
  exact ⟨fun h => nd.1 (sub _ h), (List.nodup_append.mp nd2).1⟩
inductive Take (p : Addr × Ob) : Led → Led → Prop where
  | head (l : Led) : Take p (p :: l) l
  | tail (q : Addr × Ob) {l l' : Led} : Take p l l' → Take p (q :: l) (q :: l')
theorem Take.perm {p : Addr × Ob} {l l' : Led} (t : Take p l l') : l.Perm (p :: l') := by
  induction t with
  | head l => exact .refl _
  | tail q _ ih => exact (List.Perm.cons q ih).trans (.swap ..)
inductive Takes : Led → Led → Led → Prop where
  | nil (l : Led) : Takes [] l l
  | cons {p : Addr × Ob} {ps l l' l'' : Led} : Take p l l' → Takes ps l' l'' → Takes (p :: ps) l l''
theorem Takes.perm {ps l l' : Led} (t : Takes ps l l') : l.Perm (ps ++ l') := by
  induction t with
  | nil l => exact .refl _
  | cons t _ ih => exact t.perm.trans (.cons _ ih)
theorem Sub.refl (l : Led) : Sub l l := ⟨[], by rw [List.append_nil]⟩
theorem Sub.nil (l : Led) : Sub l [] := ⟨l, .refl _⟩
theorem Sub.take {p : Addr × Ob} {l l' r : Led} (t : Take p l r) (h : Sub r l') : Sub l (p :: l') := by
  obtain ⟨rest, q⟩ := h
  exact ⟨rest, t.perm.trans (.cons _ q)⟩
theorem Sub.skip {p : Addr × Ob} {l l' : Led} (h : Sub l l') : Sub (p :: l) l' := by
  obtain ⟨rest, q⟩ := h
  exact ⟨p :: rest, (List.Perm.cons p q).trans List.perm_middle.symm⟩
theorem Takes.sub {ps l l' : Led} (t : Takes ps l l') : Sub l (ps ++ l') := ⟨[], by rw [List.append_nil]; exact t.perm⟩
theorem Sub.trans {a b d : Led} (h : Sub a b) (h' : Sub b d) : Sub a d := by
  obtain ⟨r, p⟩ := h
  obtain ⟨r', p'⟩ := h'
  exact ⟨r' ++ r, p.trans (by rw [← List.append_assoc]; exact .append_right _ p')⟩
theorem Sub.cons {p : Addr × Ob} {l l' : Led} (h : Sub l l') : Sub (p :: l) (p :: l') := .take (.head _) h
inductive Upd (a : Addr) (o o' : Ob) : Led → Led → Prop where
  | head (l : Led) : Upd a o o' ((a, o) :: l) ((a, o') :: l)
  | tail (p : Addr × Ob) {l l' : Led} : Upd a o o' l l' → Upd a o o' (p :: l) (p :: l')
theorem Upd.split {a : Addr} {o o' : Ob} {l l' : Led} (u : Upd a o o' l l') : ∃ l₁ l₂, l = l₁ ++ (a, o) :: l₂ ∧ l' = l₁ ++ (a, o') :: l₂ := by
  induction u with
  | head l => exact ⟨[], l, rfl, rfl⟩
  | tail p _ ih => obtain ⟨l₁, l₂, e, e'⟩ := ih; exact ⟨p :: l₁, l₂, by rw [e]; rfl, by rw [e']; rfl⟩
theorem Upd.mem {a : Addr} {o o' : Ob} {l l' : Led} (u : Upd a o o' l l') : (a, o) ∈ l := by
  obtain ⟨l₁, l₂, rfl, _⟩ := u.split; simp
theorem Rel.upd (R : Rel c σ s) {a b : Addr} {o o' : Ob} {led' : Led} {h' : Heap} {t : Tok} (u : Upd a o o' σ.led led') (hm : o'.more = o.more) (hb : b ∈ a :: o.more)
    (k : ∀ d ob, d ≠ b → s.heap.get? d = some ob → h'.get? d = some ob) (x : o'.At h' a) : Rel c { σ with led := led' } { s with heap := h', toks := t } := by
  obtain ⟨l₁, l₂, e, e'⟩ := u.split
  have ea : addrs led' = addrs σ.led := by rw [e, e', addrs_append, addrs_append]; simp [addrs, hm]
  have hbm : b ∈ addrs σ.led := mem_addrs u.mem b hb
  have nd := R.nd
  have bL : c.env.locals ≠ b := fun q => by rw [List.nodup_cons] at nd; exact nd.1 (q ▸ hbm)
  refine { R with loc := ?_, led := ?_, nd := ?_, own := ?_, keep := ?_ }
  · obtain ⟨m, ⟨o, es, ep, ho, r⟩, x⟩ := R.loc
    exact ⟨m, ⟨o, es, ep, k _ _ bL ho, r⟩, x⟩
  · have nd2 : (addrs l₁ ++ ((a :: o.more) ++ addrs l₂)).Nodup := by
      rw [List.nodup_cons, e, addrs_append] at nd; simpa [addrs] using nd.2
    rw [nodup_append_iff] at nd2
    obtain ⟨n1, n2, n3⟩ := nd2
    rw [nodup_append_iff] at n2
    intro p hp
    show p.2.At h' p.1
    rw [show ({ σ with led := led' } : St).led = led' from rfl, e'] at hp
    rcases List.mem_append.mp hp with hp | hp
    · refine at_of (R.led p (by rw [e]; exact List.mem_append_left _ hp)) fun d hd ob eo => k d ob (fun q => ?_) eo
      subst q
      exact n3 d (mem_addrs hp d hd) d (List.mem_append_left _ hb) rfl
    · rcases List.mem_cons.mp hp with rfl | hp
      · exact x
      · refine at_of (R.led p (by rw [e]; exact List.mem_append_right _ (.tail _ hp))) fun d hd ob eo => k d ob (fun q => ?_) eo
        subst q
        exact n2.2.2 d hb d (mem_addrs hp d hd) rfl
  · show (c.env.locals :: addrs led').Nodup
    rw [ea]; exact nd
  · show ∀ d ∈ addrs led', _
    rw [ea]; exact R.own
  · intro d ob ed hd
    refine (R.keep d ob ed hd).to fun o' e' => k d o' (fun q => ?_) e'
    subst q
    rcases R.own d hbm with w | w
    · exact hd w
    · rw [w] at ed; cases ed
inductive SetV (x : Str) (v : V) : List (Str × V) → List (Str × V) → Prop where
  | head (u : V) (l : List (Str × V)) : SetV x v ((x, u) :: l) ((x, v) :: l)
  | tail (p : Str × V) {l l' : List (Str × V)} : SetV x v l l' → SetV x v (p :: l) (p :: l')
noncomputable def eps0 {T : Type} (t0 : T) (P : T → Prop) : T := @Classical.epsilon T ⟨t0⟩ fun q => ¬ P q
theorem eps_at {T : Type} (P : T → Prop) (t0 : T) (h : P (eps0 t0 P)) (q : T) : P q :=
  Classical.byContradiction fun hn => @Classical.epsilon_spec T (fun q => ¬ P q) ⟨q, hn⟩ h
noncomputable def gx0 : Gx := ⟨default, ⟨fun _ _ => 0, { strHash := fun _ => 0, shareClass := fun _ => 0, mergeTok := id, idOf := fun _ => 0, idOfShared := fun _ _ => 0, followText := fun _ => false, idOfImm := fun _ => 0 }⟩, [], fun _ => none, fun _ => none, default⟩
noncomputable def fx0 : Fx := ⟨gx0, default, [], {}, 0, default, [], {}, true⟩
theorem setV_ix {x : Str} {v old : V} : ∀ {l : List (Str × V)} (k : Nat), l[k]? = some (x, old) → SetV x v l (l.set k (x, v))
  | [], k, h => by simp at h
  | p :: l, 0, h => by
    have e : p = (x, old) := by simpa using h
    subst e
    exact .head _ _
  | p :: l, k + 1, h => .tail _ (setV_ix k (by simpa using h))
theorem mem_ix {α : Type} {l : List α} {a : α} (k : Nat) (h : l[k]? = some a) : a ∈ l := List.mem_of_getElem? h
theorem SetV.keys {x : Str} {v : V} {l l' : List (Str × V)} (u : SetV x v l l') : l'.map Prod.fst = l.map Prod.fst := by
  induction u with
  | head u l => rfl
  | tail p _ ih => simp [ih]
theorem SetV.hasKey {x : Str} {v : V} {l l' : List (Str × V)} (u : SetV x v l l') : x ∈ l.map Prod.fst := by
  induction u with
  | head u l => exact .head _
  | tail p _ ih => exact .tail _ ih
theorem SetV.mem {x : Str} {v : V} {l l' : List (Str × V)} (u : SetV x v l l') (nd : (l.map Prod.fst).Nodup) : ∀ p ∈ l', p = (x, v) ∨ (p ∈ l ∧ p.1 ≠ x) := by
  induction u with
  | head u l =>
    intro p hp
    rcases List.mem_cons.mp hp with rfl | hp
    · exact .inl rfl
    · rw [List.map_cons, List.nodup_cons] at nd
      exact .inr ⟨.tail _ hp, fun q => nd.1 (List.mem_map.mpr ⟨p, hp, q⟩)⟩
  | tail q u' ih =>
    rw [List.map_cons, List.nodup_cons] at nd
    intro p hp
    rcases List.mem_cons.mp hp with rfl | hp
    · refine .inr ⟨.head _, fun e => nd.1 ?_⟩
      rw [e]; exact u'.hasKey
    · exact (ih nd.2 p hp).imp id fun y => ⟨.tail _ y.1, y.2⟩
theorem SetV.kinds {x : Str} {v : V} {l l' : List (Str × V)} (u : SetV x v l l') {P : Str → Prop} (h : ∀ p ∈ l, P p.1) : ∀ p ∈ l', P p.1 := by
  intro p hp
  have : p.1 ∈ l.map Prod.fst := u.keys ▸ List.mem_map_of_mem hp
  obtain ⟨q, hq, e⟩ := List.mem_map.mp this
  rw [← e]; exact h q hq
theorem V.at_loc {v : V} {u : Value} (h : v.At u) : LocAt v (some u) := by cases v <;> first | exact h | exact trivial
theorem Rel.setLoc (R : Rel c σ s) {x : Str} {v : V} {u : Value} {loc' : List (Str × V)} {h' : Heap} {t : Tok} {m : Str → Option Value} (hm : s.heap.Ns c.env.locals m) (hx : ∀ p ∈ σ.loc, LocAt p.2 (m p.1)) (hv : v.At u) (U : SetV x v σ.loc loc')
    (hn : h'.Ns c.env.locals (fun y => if y = x then some u else m y)) (hs : Heap.SameBut c.env.locals s.heap h') : Rel c { σ with loc := loc' } { s with heap := h', toks := t } := by
  have nL : ∀ d ∈ addrs σ.led, d ≠ c.env.locals := fun d hd q => by have := R.nd; rw [List.nodup_cons] at this; exact this.1 (q ▸ hd)
  refine { R with loc := ⟨_, hn, fun p hp => ?_⟩, kinds := U.kinds (P := fun y => c.env.kindOf y = some .local ∧ (y == ("__debug__" : Str)) = false) R.kinds, locnd := ?_, led := fun p hp => ?_, keep := fun b o e hb => ?_ }
  · rcases U.mem R.locnd p hp with rfl | ⟨hp, ne⟩
    · rw [if_pos rfl]; exact V.at_loc hv
    · rw [if_neg ne]; exact hx p hp
  · show (loc'.map Prod.fst).Nodup
    rw [U.keys]; exact R.locnd
  · exact at_of (R.led p hp) fun d hd ob e => (hs.2 d (nL d (mem_addrs hp d hd))).trans e
  · refine (R.keep b o e hb).to fun o' e' => (hs.2 b fun q => ?_).trans e'
    subst q; rw [R.ok.L] at e; cases e
end
noncomputable def TW (c : Fx) (E : Value → Shared → Prop) (t : Sem Value) (σ : St) (Q : V → St → Prop) : Prop :=
  ∀ s, Rel c σ s → wpS (model c.g.prog c.g.w) c.A t (fun u s' => ∃ v σ', Rel c σ' s' ∧ v.At u ∧ Q v σ') E s
noncomputable def WE (c : Fx) (E : Value → Shared → Prop) (e : Expr) (σ : St) (Q : V → St → Prop) : Prop := TW c E (eval e c.env) σ Q
noncomputable def UW (c : Fx) (E : Value → Shared → Prop) (t : Sem Unit) (σ : St) (Q : St → Prop) : Prop :=
  ∀ s, Rel c σ s → wpS (model c.g.prog c.g.w) c.A t (fun _ s' => ∃ σ', Rel c σ' s' ∧ Q σ') E s
noncomputable def BW (c : Fx) (E : Value → Shared → Prop) (e : Expr) (σ : St) (Q : Bool → St → Prop) : Prop :=
  ∀ s, Rel c σ s → wpS (model c.g.prog c.g.w) c.A (isTrue e c.env (eval e c.env)) (fun b s' => ∃ σ', Rel c σ' s' ∧ Q b σ') E s
inductive Fl where
  | next | brk | cont
  | ret (v : V)
noncomputable def Fl.At : Fl → Flow → Prop
  | .next, f => f = .next
  | .brk, f => f = .brk
  | .cont, f => f = .cont
  | .ret v, f => ∃ u, f = .ret u ∧ v.At u
noncomputable def FW (c : Fx) (E : Value → Shared → Prop) (t : Sem Flow) (σ : St) (Q : Fl → St → Prop) : Prop :=
  ∀ s, Rel c σ s → wpS (model c.g.prog c.g.w) c.A t (fun f s' => ∃ fl σ', Rel c σ' s' ∧ fl.At f ∧ Q fl σ') E s
noncomputable def WS (c : Fx) (E : Value → Shared → Prop) (st : Stmt) (σ : St) (Q : Fl → St → Prop) : Prop := FW c E (exec st c.env) σ Q
noncomputable def WSs (c : Fx) (E : Value → Shared → Prop) (sts : List Stmt) (σ : St) (Q : Fl → St → Prop) : Prop := FW c E (execs sts c.env) σ Q
section
variable {c : Fx} {E : Value → Shared → Prop} {σ : St}
theorem TW.mono {t : Sem Value} {Q Q' : V → St → Prop} (h : TW c E t σ Q) (q : ∀ v σ', Q v σ' → Q' v σ') : TW c E t σ Q' := fun s R =>
  wpS_mono (h s R) (fun u s' zq => by obtain ⟨v, σ', a, b, d⟩ := zq; exact ⟨v, σ', a, b, q _ _ d⟩) fun _ _ x => x
theorem FW.mono {t : Sem Flow} {Q Q' : Fl → St → Prop} (h : FW c E t σ Q) (q : ∀ v σ', Q v σ' → Q' v σ') : FW c E t σ Q' := fun s R =>
  wpS_mono (h s R) (fun u s' zq => by obtain ⟨v, σ', a, b, d⟩ := zq; exact ⟨v, σ', a, b, q _ _ d⟩) fun _ _ x => x
theorem ss_nil {Q : Fl → St → Prop} (h : Q .next σ) : WSs c E [] σ Q := fun s R => wpS_of (wpAny_execs_nil ⟨.next, σ, R, rfl, h⟩)
noncomputable abbrev KSeq (c : Fx) (E : Value → Shared → Prop) (rest : List Stmt) (Q : Fl → St → Prop) : Fl → St → Prop := fun fl σ' => match fl with | .next => WSs c E rest σ' Q | fl => Q fl σ'
theorem ss_cons {st : Stmt} {rest : List Stmt} {Q : Fl → St → Prop} (h : WS c E st σ (KSeq c E rest Q)) : WSs c E (st :: rest) σ Q := fun s R => by
  rw [execs_cons]
  refine wpS_bind (wpS_mono (h s R) (fun f s' zq => ?_) fun _ _ x => x)
  obtain ⟨fl, σ', R', hf, q⟩ := zq
  cases fl with
  | next => cases hf; exact q s' R'
  | brk => cases hf; exact wpS_pure ⟨.brk, σ', R', rfl, q⟩
  | cont => cases hf; exact wpS_pure ⟨.cont, σ', R', rfl, q⟩
  | ret v => obtain ⟨u, rfl, hu⟩ := hf; exact wpS_pure ⟨.ret v, σ', R', ⟨u, rfl, hu⟩, q⟩
noncomputable abbrev KIf (c : Fx) (E : Value → Shared → Prop) (body orelse : List Stmt) (Q : Fl → St → Prop) : Bool → St → Prop := fun b σ' => (b = true → WSs c E body σ' Q) ∧ (b = false → WSs c E orelse σ' Q)
theorem s_if {test : Expr} {body orelse : List Stmt} {pos : Pos} {Q : Fl → St → Prop}
    (h : BW c E test σ (KIf c E body orelse Q)) : WS c E (.If test body orelse pos) σ Q := fun s R => by
  rw [exec_If]
  refine wpS_bind (wpS_standAt (wpS_bind (wpS_mono (h s R) (fun b s' zq => ?_) fun _ _ x => x)))
  obtain ⟨σ', R', q⟩ := zq
  cases b with
  | true => exact q.1 rfl s' R'
  | false => exact q.2 rfl s' R'
noncomputable abbrev KRet (Q : Fl → St → Prop) : V → St → Prop := fun v σ' => Q (.ret v) σ'
theorem s_ret {e : Expr} {pos : Pos} {Q : Fl → St → Prop} (h : WE c E e σ (KRet Q)) : WS c E (.Return (some e) pos) σ Q := fun s R => by
  rw [exec_Return_some]
  exact wpS_bind (wpS_standAt (wpS_bind (wpS_mono (h s R) (fun u s' zq => by obtain ⟨v, σ', R', hv, q⟩ := zq; exact wpS_pure ⟨.ret v, σ', R', ⟨u, rfl, hv⟩, q⟩) fun _ _ x => x)))
theorem s_ret0 {pos : Pos} {Q : Fl → St → Prop} (h : Q (.ret .none) σ) : WS c E (.Return none pos) σ Q := fun s R => wpS_of (wpAny_Return_none ⟨.ret .none, σ, R, ⟨_, rfl, rfl⟩, h⟩)
noncomputable def V.noRef : V → Prop
  | .cst (.ref _) => False
  | .unset => False
  | _ => True
noncomputable abbrev KExpr (Q : Fl → St → Prop) : V → St → Prop := fun v σ' => v.noRef ∧ Q .next σ'
theorem s_expr {e : Expr} {pos : Pos} {Q : Fl → St → Prop} (h : WE c E e σ (KExpr Q))
    (hi : interactive c.env = false) (hs : swapsWith e none pos.line c.env = pure false) : WS c E (.Expr e pos) σ Q := fun s R => by
  rw [exec_Expr c.env e pos hi hs]
  refine wpS_bind (wpS_standAt (wpS_bind (wpS_mono (h s R) (fun u s' zq => ?_) fun _ _ x => x)))
  obtain ⟨v, σ', R', hv, q⟩ := zq
  have hu : ∀ a, u ≠ .ref a := by
    intro a e
    subst e
    cases v <;> first | exact q.1.elim | (obtain ⟨t, hv⟩ := hv; cases hv) | (cases hv; first | exact q.1.elim | skip) | cases hv
  rw [dropValue_plain hu]
  exact wpS_pure ⟨.next, σ', R', rfl, q.2⟩
theorem storeLoc {x : Str} {v : V} {u : Value} {loc' : List (Str × V)} {s : Shared} {Q : Unit → Shared → Prop} (R : Rel c σ s) (hv : v.At u) (U : SetV x v σ.loc loc') (q : ∀ s', Rel c { σ with loc := loc' } s' → Q () s') :
    wpAny (model c.g.prog c.g.w) c.A (storeName c.env x u) Q E s := by
  obtain ⟨m, hm, hx⟩ := R.loc
  have hk : c.env.kindOf x = some .local := by
    obtain ⟨p, hp, e⟩ := List.mem_map.mp U.hasKey
    rw [← e]; exact (R.kinds p hp).1
  refine wpAny_storeName_local hk hm (fun h' hn hs => q _ (R.setLoc hm hx hv U hn hs)) ?_
  rw [R.ok.fn]; rfl
noncomputable abbrev KAsg (x : Str) (Q : Fl → St → Prop) : V → St → Prop := fun v σ' => ∃ loc', SetV x v σ'.loc loc' ∧ Q .next { σ' with loc := loc' }
theorem s_assign {x : Str} {p pos : Pos} {value : Expr} {Q : Fl → St → Prop}
    (h : WE c E value σ (KAsg x Q))
    (hs : swapsWith value (some (.Name x p)) pos.line c.env = pure false) : WS c E (.Assign [.Name x p] value pos) σ Q := fun s R => by
  rw [exec_Assign_Name c.env x p value pos hs]
  refine wpS_bind (wpS_standAt (wpS_bind (wpS_mono (h s R) (fun u s' zq => ?_) fun _ _ y => y)))
  obtain ⟨v, σ', R', hv, loc', U, q⟩ := zq
  refine wpS_bind (wpS_standAt (wpS_bindL (wpAny_bindName (storeLoc R' hv U fun s'' R'' => wpS_pure ⟨.next, _, R'', rfl, q⟩))))
theorem e_int {i : Int} {k : Nat} {pos : Pos} {Q : V → St → Prop} (h : Q (.int i) σ) : WE c E (.Constant (.int i) k pos) σ Q := fun s R => wpS_of (wpAny_Constant_int ⟨.int i, σ, R.toks, ⟨_, rfl⟩, h⟩)
theorem e_bool {b : Bool} {k : Nat} {pos : Pos} {Q : V → St → Prop} (h : Q (.bool b) σ) : WE c E (.Constant (.bool b) k pos) σ Q := fun s R => (wpS_pure ⟨.bool b, σ, R, rfl, h⟩ : wpS _ _ (pure (Value.bool b)) _ _ _)
theorem e_none {k : Nat} {pos : Pos} {Q : V → St → Prop} (h : Q .none σ) : WE c E (.Constant .none k pos) σ Q := fun s R => (wpS_pure ⟨.none, σ, R, rfl, h⟩ : wpS _ _ (pure Value.none) _ _ _)
theorem e_str {x : Str} {k : Nat} {pos : Pos} {Q : V → St → Prop} (h : Q (.str x) σ) : WE c E (.Constant (.str x) k pos) σ Q := fun s R => wpS_of (Constant_str ⟨.str x, σ, R.toks, ⟨_, rfl⟩, h⟩)
theorem e_bytes {x : List UInt8} {k : Nat} {pos : Pos} {Q : V → St → Prop} (h : Q (.bytes x) σ) : WE c E (.Constant (.bytes x) k pos) σ Q := fun s R => wpS_of (Constant_bytes ⟨.bytes x, σ, R.toks, ⟨_, rfl⟩, h⟩)
noncomputable def V.isSet : V → Bool
  | .unset => false
  | _ => true
theorem locAt_some {v : V} {o : Option Value} (h : LocAt v o) (hs : v.isSet = true) : ∃ u, o = some u ∧ v.At u := by
  cases o with
  | none => cases v <;> first | exact h.elim | cases hs
  | some u => cases v <;> first | exact ⟨u, rfl, h⟩ | cases hs
theorem loadLoc {x : Str} {v : V} {s : Shared} {Q : Value → Shared → Prop} (R : Rel c σ s) (hx : (x, v) ∈ σ.loc) (hs : v.isSet = true) (q : ∀ u, v.At u → Q u s) : wpAny (model c.g.prog c.g.w) c.A (loadName c.env x) Q E s := by
  obtain ⟨m, hm, hl⟩ := R.loc
  obtain ⟨u, hu, hv⟩ := locAt_some (hl _ hx) hs
  exact wpAny_loadName_local R.ok.fn (R.kinds _ hx).1 hm hu (q u hv)
theorem e_loc {x : Str} {pos : Pos} {v : V} {Q : V → St → Prop} (hx : (x, v) ∈ σ.loc) (hs : v.isSet = true) (h : Q v σ) : WE c E (.Name x pos) σ Q := fun s R =>
  wpS_of (wpAny_Name (loadLoc R hx hs fun u hu => ⟨v, σ, R, hu, h⟩) (R.kinds _ hx).2)
theorem e_glo {x : Str} {pos : Pos} {v : V} {Q : V → St → Prop} (hx : (x, v) ∈ σ.glo) (h : Q v σ) : WE c E (.Name x pos) σ Q := fun s R => by
  obtain ⟨hk, hd, hv⟩ := R.glo _ hx
  refine wpS_of (Name_function_global R.ok.fn hk ?_ hd)
  have g1 : s.heap.Ns c.env.globals c.g.mg := R.ok.glob ▸ R.ok.g.mg.keeps R.base
  have g2 : s.heap.Ns c.env.builtins c.g.mb := R.ok.bi ▸ R.ok.g.mb.keeps R.base
  rcases hv with ⟨u, hu, hv⟩ | ⟨hn, u, hu, hv⟩
  · exact loadGlobal_global g1 hu ⟨v, σ, R, hv, h⟩
  · exact loadGlobal_builtin g1 hn g2 hu ⟨v, σ, R, hv, h⟩
theorem e_cel {x : Str} {pos : Pos} {v : V} {a : Addr} {Q : V → St → Prop} (hx : (x, a) ∈ σ.cel) (ha : (a, Ob.cell v) ∈ σ.led) (hs : v.isSet = true) (h : Q v σ) : WE c E (.Name x pos) σ Q := fun s R => by
  obtain ⟨hk, hd, hl⟩ := R.cel _ hx
  obtain ⟨o, hc, hv⟩ := R.led _ ha
  obtain ⟨u, rfl, hu⟩ := locAt_some hv hs
  refine wpS_of (wpAny_Name ?_ hd)
  rcases hk with hk | ⟨hk, hn⟩
  · exact wpAny_loadName_cell R.ok.fn hk hl hc ⟨v, σ, R, hu, h⟩
  · exact wpAny_loadName_free R.ok.fn hk hl hc ⟨v, σ, R, hu, h⟩ hn
end
noncomputable def BO (c : Fx) (E : Value → Shared → Prop) (op : Operator) (x y : V) (σ : St) (Q : V → St → Prop) : Prop :=
  ∀ u v, x.At u → y.At v → TW c E (binaryOp op u v) σ Q
noncomputable def IO' (c : Fx) (E : Value → Shared → Prop) (op : Operator) (x y : V) (σ : St) (Q : V → St → Prop) : Prop :=
  ∀ u v, x.At u → y.At v → TW c E (inplaceOp op u v) σ Q
noncomputable def CO (c : Fx) (E : Value → Shared → Prop) (op : CmpOp) (x y : V) (σ : St) (Q : V → St → Prop) : Prop :=
  ∀ u v, x.At u → y.At v → TW c E (compareOp op u v) σ Q
noncomputable def UO (c : Fx) (E : Value → Shared → Prop) (op : UnaryOp) (x : V) (σ : St) (Q : V → St → Prop) : Prop :=
  ∀ u, x.At u → TW c E (unaryOp op u) σ Q
noncomputable def TO (c : Fx) (E : Value → Shared → Prop) (x : V) (σ : St) (Q : Bool → St → Prop) : Prop :=
  ∀ u, x.At u → ∀ s, Rel c σ s → wpS (model c.g.prog c.g.w) c.A (truthy u) (fun b s' => ∃ σ', Rel c σ' s' ∧ Q b σ') E s
section
variable {c : Fx} {E : Value → Shared → Prop} {σ : St}
noncomputable abbrev KBO (c : Fx) (E : Value → Shared → Prop) (op : Operator) (x : V) (Q : V → St → Prop) : V → St → Prop := fun y σ₂ => BO c E op x y σ₂ Q
noncomputable abbrev KBin (c : Fx) (E : Value → Shared → Prop) (r : Expr) (op : Operator) (Q : V → St → Prop) : V → St → Prop := fun x σ₁ => WE c E r σ₁ (KBO c E op x Q)
theorem e_bin {l r : Expr} {op : Operator} {pos : Pos} {Q : V → St → Prop} (h : WE c E l σ (KBin c E r op Q)) : WE c E (.BinOp l op r pos) σ Q := fun s R => by
  rw [eval_BinOp]
  exact wpS_bind (wpS_mono (h s R) (fun u s₁ zq => by obtain ⟨x, σ₁, R₁, hx, h₁⟩ := zq; exact wpS_bind (wpS_holding (wpS_mono (h₁ s₁ R₁) (fun v s₂ zq => by obtain ⟨y, σ₂, R₂, hy, h₂⟩ := zq; exact wpS_bind (wpS_standAt (wpS_operate (h₂ u v hx hy s₂ R₂)))) fun _ _ z => z))) fun _ _ z => z)
noncomputable abbrev KCO (c : Fx) (E : Value → Shared → Prop) (op : CmpOp) (x : V) (Q : V → St → Prop) : V → St → Prop := fun y σ₂ => CO c E op x y σ₂ Q
noncomputable abbrev KCmp (c : Fx) (E : Value → Shared → Prop) (r : Expr) (op : CmpOp) (Q : V → St → Prop) : V → St → Prop := fun x σ₁ => WE c E r σ₁ (KCO c E op x Q)
noncomputable abbrev KTO (c : Fx) (E : Value → Shared → Prop) (Q : Bool → St → Prop) : V → St → Prop := fun z σ₃ => TO c E z σ₃ Q
theorem e_cmp {l r : Expr} {op : CmpOp} {pos : Pos} {Q : V → St → Prop} (h : WE c E l σ (KCmp c E r op Q)) (hm : behindInMarks op r = false) : WE c E (.Compare l [op] [r] pos) σ Q := fun s R => by
  rw [eval_Compare1]
  refine wpS_bind (wpS_mono (h s R) (fun u s₁ ⟨x, σ₁, R₁, hx, h₁⟩ => wpS_bind (wpS_holding ?_)) fun _ _ z => z)
  rw [markedBehindIn_of_false hm]
  exact wpS_mono (h₁ s₁ R₁) (fun v s₂ zq => by obtain ⟨y, σ₂, R₂, hy, h₂⟩ := zq; exact wpS_bind (wpS_standAt (wpS_operate (h₂ u v hx hy s₂ R₂)))) fun _ _ z => z
noncomputable abbrev KUn (c : Fx) (E : Value → Shared → Prop) (op : UnaryOp) (Q : V → St → Prop) : V → St → Prop := fun x σ₁ => UO c E op x σ₁ Q
theorem e_un {e : Expr} {op : UnaryOp} {pos : Pos} {Q : V → St → Prop} (h : WE c E e σ (KUn c E op Q)) : WE c E (.UnaryOp op e pos) σ Q := fun s R => by
  show wpS _ _ (eval e c.env >>= fun v => standAt pos >>= fun _ => holding [v] (unaryOp op v)) _ _ _
  exact wpS_bind (wpS_mono (h s R) (fun u s₁ zq => by obtain ⟨x, σ₁, R₁, hx, h₁⟩ := zq; exact wpS_bind (wpS_standAt (wpS_holding (h₁ u hx s₁ R₁)))) fun _ _ z => z)
theorem e_boolop {a b : Expr} {op : BoolOp} {pos : Pos} {Q : V → St → Prop} (h : WE c E a σ (fun x σ₁ => TO c E x σ₁ (fun t σ₂ => if (op == .And) = t then WE c E b σ₂ Q else Q x σ₂))) : WE c E (.BoolOp op [a, b] pos) σ Q := fun s R => by
  show wpS _ _ (eval a c.env >>= fun v => standAt pos >>= fun _ => holding [v] (truthy v) >>= fun t => match op, t with | .And, false | .Or, true => pure v | _, _ => eval b c.env) _ _ _
  refine wpS_bind (wpS_mono (h s R) (fun u s₁ ⟨x, σ₁, R₁, hx, h₁⟩ => wpS_bind (wpS_standAt (wpS_bind (wpS_holding (wpS_mono (h₁ u hx s₁ R₁) (fun t s₂ zq => ?_) fun _ _ z => z))))) fun _ _ z => z)
  obtain ⟨σ₂, R₂, h₂⟩ := zq
  cases op <;> cases t
  · rw [if_neg (by decide)] at h₂; exact wpS_pure ⟨x, σ₂, R₂, hx, h₂⟩
  · rw [if_pos (by decide)] at h₂; exact h₂ s₂ R₂
  · rw [if_pos (by decide)] at h₂; exact h₂ s₂ R₂
  · rw [if_neg (by decide)] at h₂; exact wpS_pure ⟨x, σ₂, R₂, hx, h₂⟩
noncomputable abbrev KAnd1 (c : Fx) (E : Value → Shared → Prop) (b : Expr) (Q : V → St → Prop) (x : V) : Bool → St → Prop := fun t σ₂ => (t = true → WE c E b σ₂ Q) ∧ (t = false → Q x σ₂)
noncomputable abbrev KAnd (c : Fx) (E : Value → Shared → Prop) (b : Expr) (Q : V → St → Prop) : V → St → Prop := fun x σ₁ => TO c E x σ₁ (KAnd1 c E b Q x)
theorem e_and {a b : Expr} {pos : Pos} {Q : V → St → Prop} (h : WE c E a σ (KAnd c E b Q)) : WE c E (.BoolOp .And [a, b] pos) σ Q :=
  e_boolop (h.mono fun x σ₁ h₁ u hu s R => wpS_mono (h₁ u hu s R) (fun t s' zq => by obtain ⟨σ₂, R₂, h₂⟩ := zq; exact ⟨σ₂, R₂, by cases t; exact h₂.2 rfl; exact h₂.1 rfl⟩) fun _ _ z => z)
noncomputable abbrev KOr1 (c : Fx) (E : Value → Shared → Prop) (b : Expr) (Q : V → St → Prop) (x : V) : Bool → St → Prop := fun t σ₂ => (t = false → WE c E b σ₂ Q) ∧ (t = true → Q x σ₂)
noncomputable abbrev KOr (c : Fx) (E : Value → Shared → Prop) (b : Expr) (Q : V → St → Prop) : V → St → Prop := fun x σ₁ => TO c E x σ₁ (KOr1 c E b Q x)
theorem e_or {a b : Expr} {pos : Pos} {Q : V → St → Prop} (h : WE c E a σ (KOr c E b Q)) : WE c E (.BoolOp .Or [a, b] pos) σ Q :=
  e_boolop (h.mono fun x σ₁ h₁ u hu s R => wpS_mono (h₁ u hu s R) (fun t s' zq => by obtain ⟨σ₂, R₂, h₂⟩ := zq; exact ⟨σ₂, R₂, by cases t; exact h₂.1 rfl; exact h₂.2 rfl⟩) fun _ _ z => z)
theorem b_cmp {l r : Expr} {op : CmpOp} {pos : Pos} {Q : Bool → St → Prop} (h : WE c E l σ (KCmp c E r op (KTO c E Q))) (hm : behindInMarks op r = false) : BW c E (.Compare l [op] [r] pos) σ Q := fun s R => by
  rw [isTrue_Compare1]
  refine wpS_bind (wpS_mono (h s R) (fun u s₁ ⟨x, σ₁, R₁, hx, h₁⟩ => wpS_bind (wpS_holding ?_)) fun _ _ z => z)
  rw [markedBehindIn_of_false hm]
  exact wpS_mono (h₁ s₁ R₁) (fun v s₂ zq => by obtain ⟨y, σ₂, R₂, hy, h₂⟩ := zq; exact wpS_bind (wpS_standAt (wpS_bind (wpS_operate (wpS_mono (h₂ u v hx hy s₂ R₂) (fun w s₃ zq => by obtain ⟨z, σ₃, R₃, hz, h₃⟩ := zq; exact wpS_holding (h₃ w hz s₃ R₃)) fun _ _ z => z))))) fun _ _ z => z
noncomputable abbrev KNot (Q : Bool → St → Prop) : Bool → St → Prop := fun b σ' => Q (!b) σ'
theorem b_not {e : Expr} {pos : Pos} {Q : Bool → St → Prop} (h : BW c E e σ (KNot Q)) : BW c E (.UnaryOp .Not e pos) σ Q := fun s R => by
  show wpS _ _ (isTrue e c.env (eval e c.env) >>= fun b => pure (!b)) _ _ _
  exact wpS_bind (wpS_mono (h s R) (fun b s₁ zq => by obtain ⟨σ₁, R₁, h₁⟩ := zq; exact wpS_pure ⟨σ₁, R₁, h₁⟩) fun _ _ z => z)
noncomputable abbrev KBAnd (c : Fx) (E : Value → Shared → Prop) (b : Expr) (Q : Bool → St → Prop) : Bool → St → Prop := fun t σ₁ => (t = true → BW c E b σ₁ Q) ∧ (t = false → Q false σ₁)
theorem b_and {a b : Expr} {pos : Pos} {Q : Bool → St → Prop} (h : BW c E a σ (KBAnd c E b Q)) : BW c E (.BoolOp .And [a, b] pos) σ Q := fun s R => by
  show wpS _ _ (isTrue a c.env (eval a c.env) >>= fun t => match BoolOp.And, t with | .And, false => pure false | .Or, true => pure true | _, _ => (isTrue b c.env (eval b c.env) >>= fun t => match BoolOp.And, t with | .And, false => pure false | .Or, true => pure true | _, _ => pure true)) _ _ _
  refine wpS_bind (wpS_mono (h s R) (fun t s₁ zq => ?_) fun _ _ z => z)
  obtain ⟨σ₁, R₁, h₁⟩ := zq
  cases t
  · exact wpS_pure ⟨σ₁, R₁, h₁.2 rfl⟩
  · refine wpS_bind (wpS_mono (h₁.1 rfl s₁ R₁) (fun t s₂ zq => ?_) fun _ _ z => z)
    obtain ⟨σ₂, R₂, h₂⟩ := zq
    cases t <;> exact wpS_pure ⟨σ₂, R₂, h₂⟩
noncomputable abbrev KBOr (c : Fx) (E : Value → Shared → Prop) (b : Expr) (Q : Bool → St → Prop) : Bool → St → Prop := fun t σ₁ => (t = false → BW c E b σ₁ Q) ∧ (t = true → Q true σ₁)
theorem b_or {a b : Expr} {pos : Pos} {Q : Bool → St → Prop} (h : BW c E a σ (KBOr c E b Q)) : BW c E (.BoolOp .Or [a, b] pos) σ Q := fun s R => by
  show wpS _ _ (isTrue a c.env (eval a c.env) >>= fun t => match BoolOp.Or, t with | .And, false => pure false | .Or, true => pure true | _, _ => (isTrue b c.env (eval b c.env) >>= fun t => match BoolOp.Or, t with | .And, false => pure false | .Or, true => pure true | _, _ => pure false)) _ _ _
  refine wpS_bind (wpS_mono (h s R) (fun t s₁ zq => ?_) fun _ _ z => z)
  obtain ⟨σ₁, R₁, h₁⟩ := zq
  cases t
  · refine wpS_bind (wpS_mono (h₁.1 rfl s₁ R₁) (fun t s₂ zq => ?_) fun _ _ z => z)
    obtain ⟨σ₂, R₂, h₂⟩ := zq
    cases t <;> exact wpS_pure ⟨σ₂, R₂, h₂⟩
  · exact wpS_pure ⟨σ₁, R₁, h₁.2 rfl⟩
noncomputable abbrev KBAnd3 (c : Fx) (E : Value → Shared → Prop) (b d : Expr) (Q : Bool → St → Prop) : Bool → St → Prop := fun t σ₁ => (t = true → BW c E b σ₁ (KBAnd c E d Q)) ∧ (t = false → Q false σ₁)
theorem b_and3 {a b d : Expr} {pos : Pos} {Q : Bool → St → Prop} (h : BW c E a σ (KBAnd3 c E b d Q)) : BW c E (.BoolOp .And [a, b, d] pos) σ Q := fun s R => by
  show wpS _ _ (isTrue a c.env (eval a c.env) >>= fun t => match BoolOp.And, t with | .And, false => pure false | .Or, true => pure true | _, _ => (isTrue b c.env (eval b c.env) >>= fun t => match BoolOp.And, t with | .And, false => pure false | .Or, true => pure true | _, _ => (isTrue d c.env (eval d c.env) >>= fun t => match BoolOp.And, t with | .And, false => pure false | .Or, true => pure true | _, _ => pure true))) _ _ _
  refine wpS_bind (wpS_mono (h s R) (fun t s₁ zq => ?_) fun _ _ z => z)
  obtain ⟨σ₁, R₁, h₁⟩ := zq
  cases t
  · exact wpS_pure ⟨σ₁, R₁, h₁.2 rfl⟩
  · refine wpS_bind (wpS_mono (h₁.1 rfl s₁ R₁) (fun t s₂ zq => ?_) fun _ _ z => z)
    obtain ⟨σ₂, R₂, h₂⟩ := zq
    cases t
    · exact wpS_pure ⟨σ₂, R₂, h₂.2 rfl⟩
    · refine wpS_bind (wpS_mono (h₂.1 rfl s₂ R₂) (fun t s₃ zq => ?_) fun _ _ z => z)
      obtain ⟨σ₃, R₃, h₃⟩ := zq
      cases t <;> exact wpS_pure ⟨σ₃, R₃, h₃⟩
theorem e_and3 {a b d : Expr} {pos : Pos} {Q : V → St → Prop} (h : WE c E a σ (fun x σ₁ => TO c E x σ₁ (fun t σ₂ => (t = true → WE c E b σ₂ (fun y σ₃ => TO c E y σ₃ (fun t σ₄ => (t = true → WE c E d σ₄ Q) ∧ (t = false → Q y σ₄)))) ∧ (t = false → Q x σ₂)))) : WE c E (.BoolOp .And [a, b, d] pos) σ Q := fun s R => by
  show wpS _ _ (eval a c.env >>= fun v => standAt pos >>= fun _ => holding [v] (truthy v) >>= fun t => match BoolOp.And, t with | .And, false | .Or, true => pure v | _, _ => eval b c.env >>= fun v => standAt pos >>= fun _ => holding [v] (truthy v) >>= fun t => match BoolOp.And, t with | .And, false | .Or, true => pure v | _, _ => eval d c.env) _ _ _
  refine wpS_bind (wpS_mono (h s R) (fun u s₁ ⟨x, σ₁, R₁, hx, h₁⟩ => wpS_bind (wpS_standAt (wpS_bind (wpS_holding (wpS_mono (h₁ u hx s₁ R₁) (fun t s₂ zq => ?_) fun _ _ z => z))))) fun _ _ z => z)
  obtain ⟨σ₂, R₂, h₂⟩ := zq
  cases t
  · exact wpS_pure ⟨x, σ₂, R₂, hx, h₂.2 rfl⟩
  · refine wpS_bind (wpS_mono (h₂.1 rfl s₂ R₂) (fun u s₁ ⟨x, σ₁, R₁, hx, h₁⟩ => wpS_bind (wpS_standAt (wpS_bind (wpS_holding (wpS_mono (h₁ u hx s₁ R₁) (fun t s₂ zq => ?_) fun _ _ z => z))))) fun _ _ z => z)
    obtain ⟨σ₂, R₂, h₂⟩ := zq
    cases t
    · exact wpS_pure ⟨x, σ₂, R₂, hx, h₂.2 rfl⟩
    · exact h₂.1 rfl s₂ R₂
noncomputable def plainTest : Expr → Bool
  | .Name .. | .Call .. | .Attribute .. | .Constant .. | .Subscript .. => true
  | _ => false
theorem b_plain {e : Expr} {Q : Bool → St → Prop} (h : WE c E e σ (KTO c E Q)) (hp : plainTest e = true) : BW c E e σ Q := fun s R => by
  have e0 : isTrue e c.env (eval e c.env) = (eval e c.env >>= fun v => standAt e.pos >>= fun _ => holding [v] (truthy v)) := by
    cases e <;> first | rfl | cases hp
  rw [e0]
  exact wpS_bind (wpS_mono (h s R) (fun u s₁ zq => by obtain ⟨x, σ₁, R₁, hx, h₁⟩ := zq; exact wpS_bind (wpS_standAt (wpS_holding (h₁ u hx s₁ R₁)))) fun _ _ z => z)
theorem t_bool {b : Bool} {Q : Bool → St → Prop} (h : Q b σ) : TO c E (.bool b) σ Q := fun u hu s R => by
  cases hu; exact wpS_of (wpAny_truthy_bool ⟨σ, R, h⟩)
theorem hasI {i : Int} {t : Tok} {k : Nat} {s : Shared} {Q : V → St → Prop} (R : Rel c σ s) (h : Q (.int i) σ) : ∃ v σ', Rel c σ' { s with toks := k } ∧ v.At (.int i t) ∧ Q v σ' := ⟨.int i, σ, R.toks, ⟨t, rfl⟩, h⟩
theorem hasB {b : Bool} {s : Shared} {Q : V → St → Prop} (R : Rel c σ s) (h : Q (.bool b) σ) : ∃ v σ', Rel c σ' s ∧ v.At (.bool b) ∧ Q v σ' := ⟨.bool b, σ, R, rfl, h⟩
theorem hasY {b : List UInt8} {t : Tok} {k : Nat} {s : Shared} {Q : V → St → Prop} (R : Rel c σ s) (h : Q (.bytes b) σ) : ∃ v σ', Rel c σ' { s with toks := k } ∧ v.At (.bytes b.toArray t) ∧ Q v σ' := ⟨.bytes b, σ, R.toks, ⟨t, rfl⟩, h⟩
theorem o_add {i j : Int} {Q : V → St → Prop} (h : Q (.int (i + j)) σ) : BO c E .Add (.int i) (.int j) σ Q := fun u v hu hv s R => by
  obtain ⟨t, rfl⟩ := hu; obtain ⟨t', rfl⟩ := hv
  refine wpS_of ?_
  exact P.add_int (hasI R h)
theorem o_sub {i j : Int} {Q : V → St → Prop} (h : Q (.int (i - j)) σ) : BO c E .Sub (.int i) (.int j) σ Q := fun u v hu hv s R => by
  obtain ⟨t, rfl⟩ := hu; obtain ⟨t', rfl⟩ := hv
  refine wpS_of ?_
  exact P.sub_int (hasI R h)
theorem mulOk {i j : Int} (h : i.natAbs < 2 ^ 60 ∨ j.natAbs < 2 ^ 60) : IntMulOk i j := by
  have key : ∀ k : Int, k.natAbs < 2 ^ 60 → Builtin.Int.intBits k ≤ 64 := fun k hk => by
    unfold Builtin.Int.intBits
    split
    · (walk_at "o")
    · rename_i hz
      have := (Nat.log2_lt (n := k.natAbs) (k := 60) (by simpa using hz)).mpr hk
      (walk_at "o")
  exact h.elim (fun x => .of_left (key _ x)) fun x => .of_right (key _ x)
theorem o_mul {i j : Int} {Q : V → St → Prop} (hb : i.natAbs < 2 ^ 60 ∨ j.natAbs < 2 ^ 60) (h : Q (.int (i * j)) σ) : BO c E .Mult (.int i) (.int j) σ Q := fun u v hu hv s R => by
  obtain ⟨t, rfl⟩ := hu; obtain ⟨t', rfl⟩ := hv
  refine wpS_of ?_
  exact P.mul_int (hasI R h) (mulOk hb)
theorem o_div {i j : Int} {Q : V → St → Prop} (h0 : 0 < j) (hb : j < 1073741824) (h : Q (.int (i / j)) σ) : BO c E .FloorDiv (.int i) (.int j) σ Q := fun u v hu hv s R => by
  obtain ⟨t, rfl⟩ := hu; obtain ⟨t', rfl⟩ := hv
  refine wpS_of ?_
  refine floordiv_int (by walk_at "o") (hasI R ?_) (.inl (PyProof.noPylong_small (by walk_at "o")))
  rw [Int.fdiv_eq_ediv_of_nonneg _ (by walk_at "o")]; exact h
theorem o_mod {i j : Int} {Q : V → St → Prop} (h0 : 0 < j) (h : Q (.int (i % j)) σ) : BO c E .Mod (.int i) (.int j) σ Q := fun u v hu hv s R => by
  obtain ⟨t, rfl⟩ := hu; obtain ⟨t', rfl⟩ := hv
  refine wpS_of ?_
  refine mod_int' (by walk_at "o") (hasI R ?_)
  rw [Int.fmod_eq_emod_of_nonneg _ (by walk_at "o")]; exact h
theorem o_and {i j : Int} {Q : V → St → Prop} (h : Q (.int (Builtin.bitAnd i j)) σ) : BO c E .BitAnd (.int i) (.int j) σ Q := fun u v hu hv s R => by
  obtain ⟨t, rfl⟩ := hu; obtain ⟨t', rfl⟩ := hv
  refine wpS_of ?_
  exact and_int (hasI R h)
theorem o_or {i j : Int} {Q : V → St → Prop} (h : Q (.int (Builtin.bitOr i j)) σ) : BO c E .BitOr (.int i) (.int j) σ Q := fun u v hu hv s R => by
  obtain ⟨t, rfl⟩ := hu; obtain ⟨t', rfl⟩ := hv
  refine wpS_of ?_
  exact or_int (hasI R h)
theorem o_shl {i j : Int} {Q : V → St → Prop} (h0 : 0 ≤ j) (h1 : j ≤ 1000) (hi : i.natAbs < 2 ^ 64) (h : Q (.int (i * 2 ^ j.toNat)) σ) : BO c E .LShift (.int i) (.int j) σ Q := fun u v hu hv s R => by
  obtain ⟨t, rfl⟩ := hu; obtain ⟨t', rfl⟩ := hv
  refine wpS_of ?_
  exact lshift_int_small h0 (by walk_at "o") hi (hasI R h)
theorem o_shr {i j : Int} {Q : V → St → Prop} (h0 : 0 ≤ j) (h : Q (.int (i / 2 ^ j.toNat)) σ) : BO c E .RShift (.int i) (.int j) σ Q := fun u v hu hv s R => by
  obtain ⟨t, rfl⟩ := hu; obtain ⟨t', rfl⟩ := hv
  refine wpS_of ?_
  refine rshift_int h0 (hasI R ?_)
  rw [Int.fdiv_eq_ediv_of_nonneg _ (Int.le_of_lt (Int.pow_pos (by decide)))]; exact h
theorem io_add {i j : Int} {Q : V → St → Prop} (h : Q (.int (i + j)) σ) : IO' c E .Add (.int i) (.int j) σ Q := fun u v hu hv s R => by
  obtain ⟨t, rfl⟩ := hu; obtain ⟨t', rfl⟩ := hv
  refine wpS_of ?_
  exact P.iadd_int (hasI R h)
theorem io_sub {i j : Int} {Q : V → St → Prop} (h : Q (.int (i - j)) σ) : IO' c E .Sub (.int i) (.int j) σ Q := fun u v hu hv s R => by
  obtain ⟨t, rfl⟩ := hu; obtain ⟨t', rfl⟩ := hv
  refine wpS_of ?_
  exact P.isub_int (hasI R h)
theorem c_lt {i j : Int} {Q : V → St → Prop} (h : Q (.bool (decide (i < j))) σ) : CO c E .Lt (.int i) (.int j) σ Q := fun u v hu hv s R => by
  obtain ⟨t, rfl⟩ := hu; obtain ⟨t', rfl⟩ := hv
  refine wpS_of ?_
  exact P.lt_int (hasB R h)
theorem c_le {i j : Int} {Q : V → St → Prop} (h : Q (.bool (decide (i ≤ j))) σ) : CO c E .LtE (.int i) (.int j) σ Q := fun u v hu hv s R => by
  obtain ⟨t, rfl⟩ := hu; obtain ⟨t', rfl⟩ := hv
  refine wpS_of ?_
  exact P.le_int (hasB R h)
theorem c_gt {i j : Int} {Q : V → St → Prop} (h : Q (.bool (decide (j < i))) σ) : CO c E .Gt (.int i) (.int j) σ Q := fun u v hu hv s R => by
  obtain ⟨t, rfl⟩ := hu; obtain ⟨t', rfl⟩ := hv
  refine wpS_of ?_
  exact P.gt_int (hasB R h)
theorem c_ge {i j : Int} {Q : V → St → Prop} (h : Q (.bool (decide (j ≤ i))) σ) : CO c E .GtE (.int i) (.int j) σ Q := fun u v hu hv s R => by
  obtain ⟨t, rfl⟩ := hu; obtain ⟨t', rfl⟩ := hv
  refine wpS_of ?_
  exact P.ge_int (hasB R h)
theorem c_eq {i j : Int} {Q : V → St → Prop} (h : Q (.bool (decide (i = j))) σ) : CO c E .Eq (.int i) (.int j) σ Q := fun u v hu hv s R => by
  obtain ⟨t, rfl⟩ := hu; obtain ⟨t', rfl⟩ := hv
  refine wpS_of ?_
  exact P.eq_int (hasB R h)
theorem c_ne {i j : Int} {Q : V → St → Prop} (h : Q (.bool (decide (i ≠ j))) σ) : CO c E .NotEq (.int i) (.int j) σ Q := fun u v hu hv s R => by
  obtain ⟨t, rfl⟩ := hu; obtain ⟨t', rfl⟩ := hv
  refine wpS_of ?_
  refine P.ne_int (hasB R ?_)
  have e : (i != j) = decide (i ≠ j) := by by_cases q : i = j <;> simp [q]
  rw [e]; exact h
theorem c_neb {a b : Bool} {Q : V → St → Prop} (h : Q (.bool (a != b)) σ) : CO c E .NotEq (.bool a) (.bool b) σ Q := fun u v hu hv s R => by
  cases hu; cases hv
  refine wpS_of ?_
  exact ne_bool (hasB R h)
theorem c_isNone {x : V} {Q : V → St → Prop} {b : Bool} (hx : b = match x with | .none => true | .cst w => w == .none | _ => false) (h : Q (.bool b) σ) : CO c E .Is x .none σ Q := fun u v hu hv s R => by
  cases hv
  refine wpS_of ?_
  refine is_none_gen (hasB R ?_)
  have e : (u == Value.none) = b := by
    subst hx
    cases x <;> first | exact hu.elim | (obtain ⟨t, rfl⟩ := hu; rfl) | (cases hu; rfl)
  rw [e]; exact h
theorem ltB_slot : Slot "bytes" (cmpInfo .Lt).2.1 "bytes.__lt__" :=
  .of (owner := "bytes") (n := "__lt__") (by rw [typeLookup_type, builtinLookup_eq_fast]; kernel_rfl) (by decide +kernel) (by decide +kernel) (by decide +kernel)
    (by first | exact .inl (by decide +kernel) | exact .inr (by decide +kernel)) (by rw [isSubtype_type]; kernel_rfl)
theorem ltB_entry : entryFor table "bytes.__lt__" = some Builtin.«bytes.__lt__» := entryFor_of_tree (by kernel_rfl)
theorem ltB_args (a b : Value) : argsOk "bytes.__lt__" ⟨[a, b], []⟩ := by
  unfold argsOk; rw [signature?_of (id := "bytes.__lt__") (n := ['_', '_', 't', 'l', '_', '_']) (o := ['s', 'e', 't', 'y', 'b']) (by kernel_rfl) FB.owner_bytes]; kernel_rfl
theorem gtB_slot : Slot "bytes" (cmpInfo .Gt).2.1 "bytes.__gt__" :=
  .of (owner := "bytes") (n := "__gt__") (by rw [typeLookup_type, builtinLookup_eq_fast]; kernel_rfl) (by decide +kernel) (by decide +kernel) (by decide +kernel)
    (by first | exact .inl (by decide +kernel) | exact .inr (by decide +kernel)) (by rw [isSubtype_type]; kernel_rfl)
theorem gtB_entry : entryFor table "bytes.__gt__" = some Builtin.«bytes.__gt__» := entryFor_of_tree (by kernel_rfl)
theorem gtB_args (a b : Value) : argsOk "bytes.__gt__" ⟨[a, b], []⟩ := by
  unfold argsOk; rw [signature?_of (id := "bytes.__gt__") (n := ['_', '_', 't', 'g', '_', '_']) (o := ['s', 'e', 't', 'y', 'b']) (by kernel_rfl) FB.owner_bytes]; kernel_rfl
open Builtin in
theorem gives_ltB (b c : Array UInt8) (t u : Tok) : Gives («bytes.__lt__» ⟨[.bytes b t, .bytes c u], []⟩) (.val (.bool (Bytes.order b.toList c.toList == .lt))) := by
  refine .of_wp fun M A E s Q hq => ?_
  show wpAny M A (isInstance (.bytes c u) (.type "bytes") >>= fun r => _) _ E s
  refine wpAny_bind (wpAny_isInstance (typeIs_bytes s c u) F.sub_bytes_bytes ?_)
  exact wpAny_pure ⟨_, rfl, hq⟩
open Builtin in
theorem gives_gtB (b c : Array UInt8) (t u : Tok) : Gives («bytes.__gt__» ⟨[.bytes b t, .bytes c u], []⟩) (.val (.bool (Bytes.order b.toList c.toList == .gt))) := by
  refine .of_wp fun M A E s Q hq => ?_
  show wpAny M A (isInstance (.bytes c u) (.type "bytes") >>= fun r => _) _ E s
  refine wpAny_bind (wpAny_isInstance (typeIs_bytes s c u) F.sub_bytes_bytes ?_)
  exact wpAny_pure ⟨_, rfl, hq⟩
noncomputable abbrev ord (a b : List UInt8) : Ordering := Builtin.Bytes.order a b
theorem c_ltB {a b : List UInt8} {Q : V → St → Prop} (h : Q (.bool (ord a b == .lt)) σ) : CO c E .Lt (.bytes a) (.bytes b) σ Q := fun u v hu hv s R => by
  obtain ⟨t, rfl⟩ := hu; obtain ⟨t', rfl⟩ := hv
  refine wpS_of ?_
  exact compareOp_gives (op := .Lt) (typeIs_bytes s _ t) (typeIs_bytes s _ t') ltB_slot ltB_entry (ltB_args _ _) (gives_ltB _ _ t t') (fun e => nomatch e) (hasB R h)
theorem c_gtB {a b : List UInt8} {Q : V → St → Prop} (h : Q (.bool (ord a b == .gt)) σ) : CO c E .Gt (.bytes a) (.bytes b) σ Q := fun u v hu hv s R => by
  obtain ⟨t, rfl⟩ := hu; obtain ⟨t', rfl⟩ := hv
  refine wpS_of ?_
  exact compareOp_gives (op := .Gt) (typeIs_bytes s _ t) (typeIs_bytes s _ t') gtB_slot gtB_entry (gtB_args _ _) (gives_gtB _ _ t t') (fun e => nomatch e) (hasB R h)
theorem c_eqB {a b : List UInt8} {Q : V → St → Prop} (h : Q (.bool (decide (a = b))) σ) : CO c E .Eq (.bytes a) (.bytes b) σ Q := fun u v hu hv s R => by
  obtain ⟨t, rfl⟩ := hu; obtain ⟨t', rfl⟩ := hv
  refine wpS_of ?_
  refine eq_bytes (hasB R ?_)
  have e : (a == b) = decide (a = b) := by by_cases q : a = b <;> simp [q]
  rw [e]; exact h
theorem c_neB {a b : List UInt8} {Q : V → St → Prop} (h : Q (.bool (decide (a ≠ b))) σ) : CO c E .NotEq (.bytes a) (.bytes b) σ Q := fun u v hu hv s R => by
  obtain ⟨t, rfl⟩ := hu; obtain ⟨t', rfl⟩ := hv
  refine wpS_of ?_
  refine ne_bytes (hasB R ?_)
  have e : (a != b) = decide (a ≠ b) := by by_cases q : a = b <;> simp [q]
  rw [e]; exact h
theorem o_addB {a b : List UInt8} {Q : V → St → Prop} (hs : a.length + b.length ≤ 16777216) (h : Q (.bytes (a ++ b)) σ) : BO c E .Add (.bytes a) (.bytes b) σ Q := fun u v hu hv s R => by
  obtain ⟨t, rfl⟩ := hu; obtain ⟨t', rfl⟩ := hv
  refine wpS_of ?_
  refine KBy.add_bytes (by simpa using hs) fun t'' k => ?_
  rw [List.append_toArray]; exact hasY R h
theorem o_mulB {a : List UInt8} {n : Int} {Q : V → St → Prop} (hb : a ≠ []) (h0 : 0 ≤ n) (hn : n ≤ 1048576) (hs : a.length ≤ 16) (h : Q (.bytes (List.replicate n.toNat a).flatten) σ) : BO c E .Mult (.bytes a) (.int n) σ Q := fun u v hu hv s R => by
  obtain ⟨t, rfl⟩ := hu; obtain ⟨t', rfl⟩ := hv
  refine wpS_of ?_
  refine bytes_mul_any hb (by walk_at "o") hn hs fun t'' k => hasY R h
theorem u_not {b : Bool} {Q : V → St → Prop} (h : Q (.bool (!b)) σ) : UO c E .Not (.bool b) σ Q := fun u hu s R => by
  cases hu; refine wpS_of ?_; exact not_of (wpAny_truthy_bool (hasB R h))
theorem u_neg {i : Int} {Q : V → St → Prop} (h : Q (.int (-i)) σ) : UO c E .USub (.int i) σ Q := fun u hu s R => by
  obtain ⟨t, rfl⟩ := hu; refine wpS_of ?_; exact P.neg_int (hasI R h)
end
noncomputable def SO (c : Fx) (E : Value → Shared → Prop) (x y : V) (σ : St) (Q : V → St → Prop) : Prop :=
  ∀ u v, x.At u → y.At v → ∀ s, Rel c σ s → ∃ T id, s.TypeIs u T ∧ typeLookup (.type T) "__getitem__" = pure (some (.builtin id)) ∧
    wpAny (model c.g.prog c.g.w) c.A (getItem u v) (fun r s' => ∃ z σ', Rel c σ' s' ∧ z.At r ∧ Q z σ') E s
noncomputable def SLO (c : Fx) (E : Value → Shared → Prop) (x : V) (lo hi : Option Int) (σ : St) (Q : V → St → Prop) : Prop :=
  ∀ u, x.At u → ∀ s a vl vu, Rel c σ s → s.heap.IsSliceOf a vl vu .none → IsPart vl lo → IsPart vu hi → ∃ T id, s.TypeIs u T ∧ typeLookup (.type T) "__getitem__" = pure (some (.builtin id)) ∧
    wpAny (model c.g.prog c.g.w) c.A (getItem u (.ref a)) (fun r s' => ∃ z σ', Rel c σ' s' ∧ z.At r ∧ Q z σ') E s
noncomputable def WO (c : Fx) (E : Value → Shared → Prop) (e : Option Expr) (σ : St) (Q : Option Int → St → Prop) : Prop := match e with
  | none => Q none σ
  | some e => WE c E e σ (fun x σ' => ∃ i, x = .int i ∧ Q (some i) σ')
section
variable {c : Fx} {E : Value → Shared → Prop} {σ : St}
theorem subscripted_ops (slice : Expr) (o i : Value) : ∃ ops, subscripted slice false o i = operate ops (getItem o i) := by
  cases slice with
  | Slice a b c p => cases c <;> exact ⟨_, rfl⟩
  | _ => exact ⟨_, rfl⟩
theorem tailS {value slice : Expr} {o i : Value} {T id : String} {Q : Value → Shared → Prop} {s : Shared} (hT : s.TypeIs o T)
    (hl : typeLookup (.type T) "__getitem__" = pure (some (.builtin id))) (hg : wpAny (model c.g.prog c.g.w) c.A (getItem o i) Q E s) : wpS (model c.g.prog c.g.w) c.A (subscriptTail value slice o i) Q E s := by
  obtain ⟨ops, ho⟩ := subscripted_ops slice o i
  exact wpS_of (tail_any hT hl hg ho)
noncomputable abbrev KSO (c : Fx) (E : Value → Shared → Prop) (x : V) (Q : V → St → Prop) : V → St → Prop := fun y σ₂ => SO c E x y σ₂ Q
noncomputable abbrev KSub (c : Fx) (E : Value → Shared → Prop) (slice : Expr) (Q : V → St → Prop) : V → St → Prop := fun x σ₁ => WE c E slice σ₁ (KSO c E x Q)
theorem e_sub {value slice : Expr} {pos : Pos} {Q : V → St → Prop} (h : WE c E value σ (KSub c E slice Q)) : WE c E (.Subscript value slice pos) σ Q := fun s R => by
  rw [eval_Subscript]
  refine wpS_bind (wpS_mono (h s R) (fun u s₁ ⟨x, σ₁, R₁, hx, h₁⟩ => wpS_bind (wpS_holding (wpS_mono (h₁ s₁ R₁) (fun v s₂ ⟨y, σ₂, R₂, hy, h₂⟩ => wpS_bind (wpS_standAt ?_)) fun _ _ z => z))) fun _ _ z => z)
  obtain ⟨T, id, hT, hl, hg⟩ := h₂ u v hx hy s₂ R₂
  exact tailS (value := value) (slice := slice) hT hl hg
theorem wo_part {e : Option Expr} {Q : Option Int → St → Prop} (h : WO c E e σ Q) {s : Shared} (R : Rel c σ s) : wpS (model c.g.prog c.g.w) c.A (evalPart e c.env) (fun u s' => ∃ k σ', Rel c σ' s' ∧ IsPart u k ∧ Q k σ') E s := by
  cases e with
  | none => exact wpS_pure ⟨none, σ, R, .none, h⟩
  | some e => exact wpS_mono (h s R) (fun u s' zq => by obtain ⟨x, σ', R', hx, i, e, q⟩ := zq; subst e; obtain ⟨t, rfl⟩ := hx; exact ⟨some i, σ', R', .int i t, q⟩) fun _ _ z => z
noncomputable abbrev KSl3 (c : Fx) (E : Value → Shared → Prop) (x : V) (l : Option Int) (Q : V → St → Prop) : Option Int → St → Prop := fun k σ₃ => SLO c E x l k σ₃ Q
noncomputable abbrev KSl2 (c : Fx) (E : Value → Shared → Prop) (hi : Option Expr) (x : V) (Q : V → St → Prop) : Option Int → St → Prop := fun l σ₂ => WO c E hi σ₂ (KSl3 c E x l Q)
noncomputable abbrev KSl (c : Fx) (E : Value → Shared → Prop) (lo hi : Option Expr) (Q : V → St → Prop) : V → St → Prop := fun x σ₁ => WO c E lo σ₁ (KSl2 c E hi x Q)
theorem e_slice {value : Expr} {lo hi : Option Expr} {p pos : Pos} {Q : V → St → Prop}
    (h : WE c E value σ (KSl c E lo hi Q)) : WE c E (.Subscript value (.Slice lo hi none p) pos) σ Q := fun s R => by
  rw [eval_Subscript]
  refine wpS_bind (wpS_mono (h s R) (fun u s₁ ⟨x, σ₁, R₁, hx, h₁⟩ => wpS_bind (wpS_holding ?_)) fun _ _ z => z)
  rw [arm_eval_Slice]
  refine wpS_bind (wpS_mono (wo_part h₁ R₁) (fun vl s₂ ⟨l, σ₂, R₂, pl, h₂⟩ => wpS_bind (wpS_holding (wpS_mono (wo_part h₂ R₂) (fun vu s₃ ⟨k, σ₃, R₃, pk, h₃⟩ => wpS_bind (wpS_holding ?_)) fun _ _ z => z))) fun _ _ z => z)
  refine wpS_pure (a := Value.none) ?_
  show wpS _ _ (newObj (.type "slice") (.fields #[vl, vu, .none])) _ _ _
  refine wpS_of (wpAny_newObj_type ?_ (by show (#[vl, vu, Value.none] : Array Value).size ≤ sizeLine + 2; rw [sizeLine_eq]; simp))
  refine wpS_bind (wpS_standAt ?_)
  obtain ⟨T, id, hT, hl, hg⟩ := h₃ u hx _ _ vl vu (R₃.keeps (t := s₃.toks) fun b o e => Heap.get?_push_of_some _ e) (Heap.IsSliceOf.new ..) pl pk
  exact tailS (value := value) (slice := .Slice lo hi none p) hT hl hg
noncomputable def cutB {α : Type} (b : List α) (lo hi : Option Int) : List α := (b.drop (lo.elim 0 (clipAt b.length))).take (hi.elim b.length (clipAt b.length) - lo.elim 0 (clipAt b.length))
theorem so_bytes {b : List UInt8} {i : Int} {Q : V → St → Prop} (h0 : 0 ≤ i) (h1 : i < b.length) (hz : b.length ≤ 16777216) (h : Q (.int (b.getD i.toNat 0).toNat) σ) : SO c E (.bytes b) (.int i) σ Q := fun u v hu hv s R => by
  obtain ⟨t, rfl⟩ := hu; obtain ⟨t', rfl⟩ := hv
  exact ⟨"bytes", _, typeIs_bytes _ _ _, FB.slot_bytes_getitem.lookup, getItem_bytes (by walk_at "o") h0 h1 (hasI R h)⟩
theorem sl_bytes {b : List UInt8} {lo hi : Option Int} {Q : V → St → Prop} (hz : b.length ≤ 16777216) (h : Q (.bytes (cutB b lo hi)) σ) : SLO c E (.bytes b) lo hi σ Q := fun u hu s a vl vu R hs pl pu => by
  obtain ⟨t, rfl⟩ := hu
  refine ⟨"bytes", _, typeIs_bytes _ _ _, FB.slot_bytes_getitem.lookup, ?_⟩
  refine getItem_meets (typeIs_bytes _ _ _) (by decide) FB.slot_bytes_getitem FB.entry_bytes_getitem (FB.args_bytes_getitem_2 _ _) (KBc.meets_slice2 b.toArray t a pl pu) ⟨hs, Nat.le_trans (KBc.size_picked_le _ _ _) (by rw [sizeLine_eq]; simpa using hz), fun t' k => ?_⟩
  rw [KBc.picked_eq]
  have e : (List.drop (lo.elim 0 (clipAt b.toArray.size)) b.toArray.toList).take (hi.elim b.toArray.size (clipAt b.toArray.size) - lo.elim 0 (clipAt b.toArray.size)) = cutB b lo hi := by simp [cutB]
  rw [e]
  exact hasY R h
theorem atAll_length : ∀ {xs : List V} {us : List Value}, AtAll xs us → us.length = xs.length
  | [], [], _ => rfl
  | _ :: xs, _ :: us, h => by simp [atAll_length h.2]
  | [], _ :: _, h => h.elim
  | _ :: _, [], h => h.elim
theorem atAll_get : ∀ {xs : List V} {us : List Value}, AtAll xs us → ∀ {i : Nat} {x : V}, xs[i]? = some x → ∃ u, us[i]? = some u ∧ x.At u
  | x :: xs, u :: us, h, 0, y, e => by cases e; exact ⟨u, rfl, h.1⟩
  | x :: xs, u :: us, h, i + 1, y, e => atAll_get (xs := xs) h.2 (i := i) (by simpa using e)
  | [], _, h, i, y, e => by simp at e
  | _ :: _, [], h, _, _, _ => h.elim
theorem atAll_append : ∀ {xs ys : List V} {us vs : List Value}, AtAll xs us → AtAll ys vs → AtAll (xs ++ ys) (us ++ vs)
  | [], _, [], _, _, h => h
  | _ :: xs, _, _ :: us, _, h, h' => ⟨h.1, atAll_append h.2 h'⟩
  | [], _, _ :: _, _, h, _ => h.elim
  | _ :: _, _, [], _, h, _ => h.elim
theorem atAll_take : ∀ (n : Nat) {xs : List V} {us : List Value}, AtAll xs us → AtAll (xs.take n) (us.take n)
  | 0, _, _, _ => trivial
  | n + 1, [], [], _ => trivial
  | n + 1, _ :: xs, _ :: us, h => ⟨h.1, atAll_take n h.2⟩
  | _ + 1, [], _ :: _, h => h.elim
  | _ + 1, _ :: _, [], h => h.elim
theorem atAll_drop : ∀ (n : Nat) {xs : List V} {us : List Value}, AtAll xs us → AtAll (xs.drop n) (us.drop n)
  | 0, _, _, h => h
  | n + 1, [], [], _ => trivial
  | n + 1, _ :: xs, _ :: us, h => atAll_drop n (xs := xs) h.2
  | _ + 1, [], _ :: _, h => h.elim
  | _ + 1, _ :: _, [], h => h.elim
theorem isList_of {h : Heap} {a : Addr} {us : List Value} {n : Nat} (e : h.get? a = some ⟨.type "list", none, .seq us.toArray n, #[]⟩) : h.IsList a us.toArray := ⟨_, e, rfl, n, rfl⟩
theorem so_list {a : Addr} {xs : List V} {i : Int} {x : V} {Q : V → St → Prop} (ha : (a, Ob.list xs) ∈ σ.led) (h0 : 0 ≤ i) (hf : i < 4611686018427387904) (hx : xs[i.toNat]? = some x) (h : Q x σ) : SO c E (.cst (.ref a)) (.int i) σ Q := fun u v hu hv s R => by
  obtain ⟨t', rfl⟩ := hv
  obtain ⟨us, n, hl, hus⟩ := R.led _ ha
  obtain ⟨y, hy, hxy⟩ := atAll_get hus hx
  rw [show u = .ref a from hu]
  exact ⟨"list", _, (isList_of hl).typeIs, slot_list_getitem.lookup, wpAny_getItem_list (isList_of hl) h0 (by walk_at "o") (by simpa using hy) ⟨x, σ, R, hxy, h⟩⟩
theorem sl_arg {a : Addr} {xs : List V} {lo hi : Option Int} {Q : V → St → Prop} (ha : (a, Ob.arg xs) ∈ σ.led) (hz : xs.length ≤ 16777216)
    (h : ∀ b, Q (.cst (.ref b)) { σ with led := (b, Ob.list (cutB xs lo hi)) :: σ.led }) : SLO c E (.cst (.ref a)) lo hi σ Q := fun u hu s sl vl vu R hs pl pu => by
  obtain ⟨us, hl, hus⟩ := R.led _ ha
  rw [show u = .ref a from hu]
  refine ⟨"list", _, hl.typeIs, slot_list_getitem.lookup, wpAny_getItem_list_slice hl hs pl pu .none (by simp) ?_ (by rw [List.size_toArray, atAll_length hus, sizeLine_eq]; exact hz)⟩
  refine ⟨.cst (.ref s.heap.objs.size), _, R.fresh (ob := Ob.list (cutB xs lo hi)) (fun b o e => Heap.get?_push_of_some _ e) ?_ (by simp [Ob.more]) ?_, rfl, h _⟩
  · intro b hb
    rcases List.mem_cons.mp hb with rfl | hb
    · cases q : s.heap.get? s.heap.objs.size with
      | none => rfl
      | some o => exact absurd (Heap.lt_size q) (Nat.lt_irrefl _)
    · cases hb
  · refine ⟨cutB us lo hi, 0, ?_, ?_⟩
    · rw [Heap.get?_push_size _ rfl, slicePick_plain]
      simp [cutB]
    · unfold cutB
      rw [atAll_length hus]
      exact atAll_take _ (atAll_drop _ hus)
end
noncomputable def notStar : Expr → Bool
  | .Starred .. => false
  | _ => true
theorem starEach_plain (env : Env) : ∀ {es : List Expr}, es.all notStar = true → starEach es env = es.map fun e => (false, eval e env)
  | [], _ => rfl
  | e :: es, h => by
    simp only [List.all_cons, Bool.and_eq_true] at h
    rw [List.map_cons, ← starEach_plain env h.2]
    cases e <;> first | rfl | (exact absurd h.1 (by decide)) | (cases h.1)
noncomputable def SW (c : Fx) (E : Value → Shared → Prop) (es : List Expr) (σ : St) (Q : List V → St → Prop) : Prop :=
  ∀ s, Rel c σ s → wpS (model c.g.prog c.g.w) c.A (spliced (es.map fun e => (false, eval e c.env))) (fun vs s' => ∃ ys σ', Rel c σ' s' ∧ AtAll ys vs ∧ Q ys σ') E s
noncomputable def CallO (c : Fx) (E : Value → Shared → Prop) (f : Value) (ys : List V) (σ : St) (Q : V → St → Prop) : Prop := ∀ vs, AtAll ys vs → TW c E (call f vs) σ Q
noncomputable def KeepOk (K : Frag) (f : Value) : Prop := ∀ (M : Model) (h : Heap), K.In h → ∃ k, (k = Keeper.frame ∨ k = Keeper.machine ∨ k = Keeper.boundFrame) ∧ Looks M h (keeperOf f) k
theorem keep_builtin {K : Frag} {id : String} : KeepOk K (.builtin id) := fun M h _ => ⟨.machine, .inr (.inl rfl), Looks.of_pure rfl⟩
theorem keep_type {K : Frag} {T : String} : KeepOk K (.type T) := fun M h _ => ⟨.machine, .inr (.inl rfl), Looks.of_pure rfl⟩
theorem keep_in {K : Frag} {f : Value} (h : keepIn K f = true) : KeepOk K f := fun M hp X => keeps_K h hp X
section
variable {c : Fx} {E : Value → Shared → Prop} {σ : St}
theorem sw_nil {Q : List V → St → Prop} (h : Q [] σ) : SW c E [] σ Q := fun s R => wpS_of (spliced_nil ⟨[], σ, R, trivial, h⟩)
noncomputable abbrev KCons2 (x : V) (Q : List V → St → Prop) : List V → St → Prop := fun ys σ₂ => Q (x :: ys) σ₂
noncomputable abbrev KCons (c : Fx) (E : Value → Shared → Prop) (es : List Expr) (Q : List V → St → Prop) : V → St → Prop := fun x σ₁ => SW c E es σ₁ (KCons2 x Q)
theorem sw_cons {e : Expr} {es : List Expr} {Q : List V → St → Prop} (h : WE c E e σ (KCons c E es Q)) : SW c E (e :: es) σ Q := fun s R => by
  rw [List.map_cons, spliced]
  refine wpS_bind (wpS_mono (h s R) (fun u s₁ zq => ?_) fun _ _ z => z)
  obtain ⟨x, σ₁, R₁, hx, h₁⟩ := zq
  simp only [Bool.false_eq_true, if_false]
  exact wpS_bind (wpS_pure (wpS_bind (wpS_holding (wpS_mono (h₁ s₁ R₁) (fun vs s₂ zq => by obtain ⟨ys, σ₂, R₂, hy, h₂⟩ := zq; exact wpS_pure ⟨x :: ys, σ₂, R₂, ⟨hx, hy⟩, h₂⟩) fun _ _ z => z))))
theorem backTo_plain (pos : Pos) (env : Env) {es : List Expr} (h : es.all notStar = true) : backTo pos (starEach es env) = es.map fun e => (false, eval e env) := by
  rw [starEach_plain env h]
  simp [backTo]
theorem evalArgsS {M : Model} {A : Around} {s : Shared} {f : Value} {ts : List (Sem Value)} {Q : Args → Shared → Prop} (h : wpS M A (spliced (ts.map fun t => (false, t))) (fun vs s' => Q ⟨vs, []⟩ s') E s) : wpS M A (evalArgs f true (ts.map fun t => (false, t)) []) Q E s := by
  have tail : ∀ vs s', Q ⟨vs, []⟩ s' → wpS M A (holding (vs ++ []) (do
      let kw := (([] : List (Option Str × Sem Value)).filterMap (·.1)).zip (← evalAll (([] : List (Option Str × Sem Value)).map (·.2)))
      return (⟨← pure vs, kw⟩ : Args))) Q E s' := fun vs s' h' => wpS_holding (wpS_bind (wpS_pure (wpS_bind (wpS_pure (wpS_pure h')))))
  cases ts with
  | nil =>
    unfold evalArgs
    show wpS M A (spliced [] >>= _) Q E s
    refine wpS_bind (wpS_mono h (fun vs s' h' => ?_) fun _ _ x => x)
    refine wpS_bind (wpS_pure ?_)
    refine wpS_holding ?_
    exact wpS_bind (wpS_pure (wpS_bind (wpS_pure (wpS_pure h'))))
  | cons t rest =>
    unfold evalArgs
    show wpS M A (spliced ((false, t) :: rest.map fun t => (false, t)) >>= _) Q E s
    refine wpS_bind (wpS_mono h (fun vs s' h' => ?_) fun _ _ x => x)
    refine wpS_holding ?_
    exact wpS_bind (wpS_pure (wpS_bind (wpS_pure (wpS_pure h'))))
theorem callWith_ok {pos : Pos} {f : Value} {first : List Value} {ys : List V} {args : List Expr} {Q : V → St → Prop} (hs : args.all notStar = true) (hk : KeepOk c.g.K f) (hf : AtAll ys first)
    (h : SW c E args σ (fun zs σ' => CallO c E f (ys ++ zs) σ' Q)) : TW c E (callWith pos f first (backTo pos (starEach args c.env)) []) σ Q := fun s R => by
  rw [backTo_plain pos c.env hs]
  have em : (args.map fun e => (false, eval e c.env)) = (args.map fun e => eval e c.env).map fun t => (false, t) := by simp
  have hp : ((args.map fun e => (false, eval e c.env)).any (·.1) || ([] : List (Option Str × Sem Value)).any (·.1.isNone)) = false := by simp
  have h' := h s R
  rw [em] at h' ⊢
  rw [em] at hp
  unfold callWith
  refine wpS_bind (wpS_holding (wpS_mono (evalArgsS (Q := fun a s' => a.kw = [] ∧ ∃ zs σ', Rel c σ' s' ∧ AtAll zs a.pos ∧ CallO c E f (ys ++ zs) σ' Q) (wpS_mono h' (fun vs s' h => ⟨rfl, h⟩) fun _ _ z => z)) (fun a s₁ h₁ => ?_) fun _ _ z => z))
  obtain ⟨ek, zs, σ₁, R₁, hz, h₁⟩ := h₁
  refine wpS_bind (wpS_standAt ?_)
  obtain ⟨k, hk', L⟩ := hk (model c.g.prog c.g.w) _ R₁.K
  simp only [hp]
  refine wpS_bind (looksS L ?_)
  have main := h₁ (first ++ a.pos) (atAll_append hf hz) s₁ R₁
  rw [ek]
  have tail : ∀ {t : Sem Value} {Q : Value → Shared → Prop}, wpS (model c.g.prog c.g.w) c.A t Q E s₁ → wpS (model c.g.prog c.g.w) c.A (t >>= fun r => holding [r] point >>= fun _ => pure r) Q E s₁ :=
    fun ht => wpS_bind (wpS_mono ht (fun r s₂ hr => wpS_bind (wpS_holding (wpS_point (wpS_pure hr)))) fun _ _ x => x)
  have marked : ∀ mk : Value, wpS (model c.g.prog c.g.w) c.A (callMarked mk f (first ++ a.pos) []) (fun u s' => ∃ v σ', Rel c σ' s' ∧ v.At u ∧ Q v σ') E s₁ := fun mk => by
    unfold callMarked; exact wpS_keep main
  rcases hk' with rfl | rfl | rfl <;> dsimp only <;> first | exact tail main | (split <;> first | exact tail main | exact tail (marked _))
noncomputable abbrev KCall2 (c : Fx) (E : Value → Shared → Prop) (u : Value) (Q : V → St → Prop) : List V → St → Prop := fun zs σ₂ => CallO c E u zs σ₂ Q
noncomputable abbrev KCall (c : Fx) (E : Value → Shared → Prop) (args : List Expr) (Q : V → St → Prop) : V → St → Prop := fun x σ₁ => ∃ u, x = .cst u ∧ KeepOk c.g.K u ∧ SW c E args σ₁ (KCall2 c E u Q)
theorem e_call {f : Expr} {args : List Expr} {pos : Pos} {Q : V → St → Prop}
    (h : WE c E f σ (KCall c E args Q))
    (hf : (match f with | .Name .. => true | _ => false) = true) (hs : args.all notStar = true) : WE c E (.Call f args [] pos) σ Q := fun s R => by
  have e0 : eval (.Call f args [] pos) c.env = (do callWith pos (← eval f c.env) [] (backTo pos (starEach args c.env)) []) := by
    cases f <;> first | rfl | cases hf
  rw [e0]
  refine wpS_bind (wpS_mono (h s R) (fun u s₁ zq => ?_) fun _ _ z => z)
  obtain ⟨x, σ₁, R₁, hx, w, e, hk, h₁⟩ := zq
  subst e
  rw [show u = w from hx]
  exact callWith_ok (first := []) (ys := []) hs hk trivial h₁ s₁ R₁
noncomputable def MO (c : Fx) (E : Value → Shared → Prop) (x : V) (name : Str) (σ : St) (Q : Value → List V → Prop) : Prop :=
  ∀ u, x.At u → ∀ s, Rel c σ s → ∀ pl (P : Value × List Value → Shared → Prop), (∀ f first ys, AtAll ys first → Q f ys → P (f, first) s) → wpAny (model c.g.prog c.g.w) c.A (getMethod u name pl) P E s
noncomputable abbrev KMeth2 (c : Fx) (E : Value → Shared → Prop) (f : Value) (ys : List V) (Q : V → St → Prop) : List V → St → Prop := fun zs σ₂ => CallO c E f (ys ++ zs) σ₂ Q
noncomputable abbrev KMeth1 (c : Fx) (E : Value → Shared → Prop) (args : List Expr) (σ₁ : St) (Q : V → St → Prop) : Value → List V → Prop := fun f ys => KeepOk c.g.K f ∧ SW c E args σ₁ (KMeth2 c E f ys Q)
noncomputable abbrev KMeth (c : Fx) (E : Value → Shared → Prop) (name : Str) (args : List Expr) (Q : V → St → Prop) : V → St → Prop := fun x σ₁ => MO c E x name σ₁ (KMeth1 c E args σ₁ Q)
theorem e_meth {o : Expr} {name : Str} {apos pos : Pos} {args : List Expr} {Q : V → St → Prop}
    (h : WE c E o σ (KMeth c E name args Q))
    (hb : attributeBase o name c.env (eval o c.env) = eval o c.env) (hs : args.all notStar = true) (hn : args.length < 30) (hl : (apos.endLine == pos.line) = true) : WE c E (.Call (.Attribute o name apos) args [] pos) σ Q := fun s R => by
  rw [arm_eval_Call, hb]
  refine wpS_bind (wpS_mono (h s R) (fun u s₁ zq => ?_) fun _ _ z => z)
  obtain ⟨x, σ₁, R₁, hx, h₁⟩ := zq
  refine wpS_bind (wpS_standAt ?_)
  have hform : methodCallForm (args.length + ([] : List Keyword).length) (backTo pos (starEach args c.env)) (backToKw pos (keywordEach [] c.env)) = true := by
    rw [backTo_plain pos c.env hs]
    simp [methodCallForm, backToKw, keywordEach, hn]
  have hpos : methodCallPos true o c.env apos pos = pure pos := by unfold methodCallPos; simp [hl]
  unfold methodCall
  rw [hform]
  refine wpS_bind (wpS_holding ?_)
  show wpS _ _ (getMethod u name _) _ _ _
  refine wpS_of (h₁ u hx s₁ R₁ _ _ fun f first ys hf q => ?_)
  refine wpS_bind (wpS_of_eq hpos ?_)
  exact callWith_ok hs q.1 hf q.2 s₁ R₁
end
namespace BA
theorem plainAttrs : PlainAttrs "bytearray" :=
  ⟨⟨"bytearray.__getattribute__", by rw [typeLookup_type, builtinLookup_eq_fast]; kernel_rfl, by decide +kernel⟩, by rw [typeLookup_type, builtinLookup_eq_fast]; kernel_rfl⟩
theorem owner : Manifest.owners.lookup (String.ofList ['y', 'a', 'r', 'r', 'a', 'e', 't', 'y', 'b'].reverse) = some Manifest.sig_bytearray := by kernel_rfl
theorem slot_extend : Slot "bytearray" "extend" "bytearray.extend" :=
  .of (owner := "bytearray") (n := "extend") (by rw [typeLookup_type, builtinLookup_eq_fast]; kernel_rfl) (by decide +kernel) (by decide +kernel) (by decide +kernel)
    (by first | exact .inl (by decide +kernel) | exact .inr (by decide +kernel)) (by rw [isSubtype_type]; kernel_rfl)
theorem type_extend : typeOf (.builtin "bytearray.extend") = pure (.type "method_descriptor") := by show builtinType _ = _; rw [builtinType_eq_fast]; kernel_rfl
theorem entry_extend : entryFor table "bytearray.extend" = some Builtin.«bytearray.extend» := entryFor_of_tree (by kernel_rfl)
theorem args_extend (a b : Value) : argsOk "bytearray.extend" ⟨[a, b], []⟩ := by
  unfold argsOk; rw [signature?_of (id := "bytearray.extend") (n := ['d', 'n', 'e', 't', 'x', 'e']) (o := ['y', 'a', 'r', 'r', 'a', 'e', 't', 'y', 'b']) (by kernel_rfl) owner]; kernel_rfl
theorem slot_len : Slot "bytearray" "__len__" "bytearray.__len__" :=
  .of (owner := "bytearray") (n := "__len__") (by rw [typeLookup_type, builtinLookup_eq_fast]; kernel_rfl) (by decide +kernel) (by decide +kernel) (by decide +kernel)
    (by first | exact .inl (by decide +kernel) | exact .inr (by decide +kernel)) (by rw [isSubtype_type]; kernel_rfl)
theorem entry_len : entryFor table "bytearray.__len__" = some Builtin.«bytearray.__len__» := entryFor_of_tree (by kernel_rfl)
theorem args_len (a : Value) : argsOk "bytearray.__len__" ⟨[a], []⟩ := by
  unfold argsOk; rw [signature?_of (id := "bytearray.__len__") (n := ['_', '_', 'n', 'e', 'l', '_', '_']) (o := ['y', 'a', 'r', 'r', 'a', 'e', 't', 'y', 'b']) (by kernel_rfl) owner]; kernel_rfl
theorem mro : mroOf (.type "bytearray") = pure [.type "bytearray", .type "object"] := by rw [mroOf_type]; kernel_rfl
theorem lookup_new : typeLookup (.type "bytearray") "__new__" = pure (some (.builtin "bytearray.__new__")) := by rw [typeLookup_type, builtinLookup_eq_fast]; kernel_rfl
theorem slot_init : Slot "bytearray" "__init__" "bytearray.__init__" :=
  .of (owner := "bytearray") (n := "__init__") (by rw [typeLookup_type, builtinLookup_eq_fast]; kernel_rfl) (by decide +kernel) (by decide +kernel) (by decide +kernel)
    (by first | exact .inl (by decide +kernel) | exact .inr (by decide +kernel)) (by rw [isSubtype_type]; kernel_rfl)
theorem called : TypeCalled "bytearray" "bytearray.__new__" "bytearray.__init__" :=
  ⟨by decide +kernel, by decide +kernel, ⟨_, _, mro⟩, madeBy_type mro lookup_new (by decide +kernel), by decide +kernel, by rw [isSubtype_type]; kernel_rfl, slot_init⟩
theorem entry_init : entryFor table "bytearray.__init__" = some Builtin.«bytearray.__init__» := entryFor_of_tree (by kernel_rfl)
theorem args_init0 (a : Value) : argsOk "bytearray.__init__" ⟨[a], []⟩ := by
  unfold argsOk; rw [signature?_of (id := "bytearray.__init__") (n := ['_', '_', 't', 'i', 'n', 'i', '_', '_']) (o := ['y', 'a', 'r', 'r', 'a', 'e', 't', 'y', 'b']) (by kernel_rfl) owner]; kernel_rfl
theorem args_init1 (a b : Value) : argsOk "bytearray.__init__" ⟨[a, b], []⟩ := by
  unfold argsOk; rw [signature?_of (id := "bytearray.__init__") (n := ['_', '_', 't', 'i', 'n', 'i', '_', '_']) (o := ['y', 'a', 'r', 'r', 'a', 'e', 't', 'y', 'b']) (by kernel_rfl) owner]; kernel_rfl
theorem typeCall0 : checkTypeCall "bytearray" ⟨[], []⟩ = pure () := by kernel_rfl
theorem typeCall1 (a : Value) : checkTypeCall "bytearray" ⟨[a], []⟩ = pure () := by kernel_rfl
theorem newCall0 : checkBuiltinCall "bytearray.__new__" ⟨[.type "bytearray"], []⟩ = pure () := by kernel_rfl
theorem newCall1 (a : Value) : checkBuiltinCall "bytearray.__new__" ⟨[.type "bytearray", a], []⟩ = pure () := by kernel_rfl
theorem plain_new : plainId "bytearray.__new__" = true := by decide +kernel
theorem entry_new : entryFor table "bytearray.__new__" = some Builtin.«list.__new__» := entryFor_alias (id' := "list.__new__") (by rw [fastTable_eq_tree]; kernel_rfl) (by first | rfl | decide +kernel) (by decide +kernel) (by rw [fastTable_eq_tree]; kernel_rfl)
theorem sub_self : isSubtype (.type "bytearray") (.type "bytearray") = pure true := by rw [isSubtype_type]; kernel_rfl
theorem look_buffer : typeLookup (.type "bytearray") "__buffer__" = pure (some (.builtin "bytearray.__buffer__")) := by rw [typeLookup_type, builtinLookup_eq_fast]; kernel_rfl
theorem look_release : typeLookup (.type "bytearray") "__release_buffer__" = pure (some (.builtin "bytearray.__release_buffer__")) := by rw [typeLookup_type, builtinLookup_eq_fast]; kernel_rfl
theorem noIndex : typeLookup (.type "bytearray") "__index__" = pure none := by rw [typeLookup_type, builtinLookup_eq_fast]; kernel_rfl
theorem noBytes : typeLookup (.type "bytearray") "__bytes__" = pure none := by rw [typeLookup_type, builtinLookup_eq_fast]; kernel_rfl
end BA
noncomputable def finQ (M : Model) (A : Around) (R : Result → Shared → Prop) (fin : Fin) (s' : Shared) : Prop := match fin with
  | .done f => R (.ok f) s'
  | .again c' => c'.quiet = true ∧ codeS M A c' R s'
section
variable {prog : Program} {w : World} {A : Around} {E : Value → Shared → Prop} {s : Shared} {R : Result → Shared → Prop}
theorem codeS_builtin {id : String} {args : Args} {b : Builtin} (hcl : cleanCode (.builtin id args) = true) (hb : entryFor table id = some b)
    (h : wpS (model prog w) (A.under (.builtin id args)) (b args) (finQ (model prog w) A R) (fun e s' => R (.error e) s') s) : codeS (model prog w) A (.builtin id args) R s := by
  refine codeS_of_tree hcl ?_
  show wpS _ _ (match entryFor table id with | some b => b args | none => unsupported ((withoutEnding? id "#data").getD id)) _ _ s
  rw [hb]
  exact wpS_mono h (fun fin s' x => by cases fin <;> exact x) fun _ _ x => x
theorem codeS_call_builtin {id : String} {args : Args} {b : Builtin} (hq : plainId id = true) (hcl : cleanCode (.builtin id args) = true) (hb : entryFor table id = some b)
    (hk : ∀ Q : Unit → Shared → Prop, Q () s → wpAny (model prog w) A.in1 (checkBuiltinCall id args) Q (fun e s' => R (.error e) s') s)
    (h : wpS (model prog w) A.in1 (b args) (finQ (model prog w) A R) (fun e s' => R (.error e) s') s) : codeS (model prog w) A (.call (.builtin id) args) R s := by
  refine codeS_of_tree rfl ?_
  show wpS _ A.in1 (do checkBuiltinCall id args; again (.builtin id args)) _ _ s
  refine wpS_bindL (hk _ (wpS_pure (And.intro (plainId_quiet hq args) (codeS_builtin hcl hb ?_))))
  rw [Around.under_plainId hq args]; exact h
theorem call_slotS {T : String} {name : Str} {id : String} {B : Builtin} {self : Value} {rest : List Value} {Q : Value → Shared → Prop} (slot : Slot T name id) (hT : s.TypeIs self T)
    (hcl : ∀ args, cleanCode (.builtin id args) = true) (entry : entryFor table id = some B) (args : argsOk id ⟨self :: rest, []⟩)
    (h : wpS (model prog w) A.in1 (B ⟨self :: rest, []⟩) (fun fin s' => ∃ v, fin = .done (.ret v) ∧ Q v s') E s) : wpS (model prog w) A (call (.builtin id) (self :: rest)) Q E s :=
  wpS_call (codeS_call_builtin slot.plain (hcl _) entry (fun Q q => slot.check _ _ _ _ _ _ _ _ hT args q) (wpS_mono h (fun fin s' zq => by obtain ⟨v, e, q⟩ := zq; subst e; exact q) fun _ _ x => x))
theorem clean_of {id : String} (h : (!Builtin.Bytes.decodersThatHold.contains id && !guardIds.contains id) = true) (args : Args) : cleanCode (.builtin id args) = true := h
end
namespace BA
open Builtin
theorem special (v : Value) (name : Str) (r : Option Value) {M : Model} {A : Around} {E : Value → Shared → Prop} {s : Shared} {T : String} {Q : Option Value → Shared → Prop} (hT : s.TypeIs v T) (hl : typeLookup (.type T) name = pure r) (h : Q r s) : wpAny M A (specialOf v name) Q E s := wpAny_specialOf hT hl h
noncomputable def baObj (b : List UInt8) : Obj := ⟨.type "bytearray", none, .bytearray b.toArray 0, #[]⟩
section
variable {M : Model} {A : Around} {E : Value → Shared → Prop} {s : Shared} {a : Addr} {b m : List UInt8}
theorem typeIs (ho : s.heap.get? a = some (baObj b)) : s.TypeIs (.ref a) "bytearray" := ⟨_, ho, rfl⟩
theorem payloadS {Q : Array UInt8 → Shared → Prop} (ho : s.heap.get? a = some (baObj b)) (h : Q b.toArray s) : wpAny M A (Bytes.payload (.ref a)) Q E s := by
  unfold Bytes.payload Bytes.payload?
  refine wpAny_bind (wpAny_bind (wpAny_load ho ?_))
  exact wpAny_pure (wpAny_pure h)
theorem writeS {f : Array UInt8 → Array UInt8} {Q : Unit → Shared → Prop} (ho : s.heap.get? a = some (baObj b)) (e : f b.toArray = m.toArray) (hz : m.length ≤ 16777216)
    (h : ∀ h', Heap.SameBut a s.heap h' → h'.get? a = some (baObj m) → Q () { s with heap := h' }) : wpAny M A (Bytes.write (.ref a) f) Q E s := by
  unfold Bytes.write updateBytearray
  refine wpAny_bind (wpAny_load ho ?_)
  show wpAny _ _ (update a (Obj.mapBytearray f) >>= fun _ => lookBehind a) _ _ _
  refine wpAny_bind (wpAny_update ho ?_)
  have hS₂ : (s.heap.update a (Obj.mapBytearray f)).get? a = some (baObj m) := by
    rw [Heap.get?_update_self (Obj.mapBytearray f) ho rfl]
    show some (Obj.mk _ _ (.bytearray (f b.toArray) 0) _) = _
    rw [e]; rfl
  refine wpAny_lookBehind hS₂ ?_ (h _ (Heap.SameBut.update ..) hS₂)
  show (if m.toArray.size > sizeLine then some "bytearray:memory" else none) = none
  rw [if_neg]; rw [sizeLine_eq]; simp only [List.size_toArray]; (walk_at "o")
theorem checkResizeS {Q : Unit → Shared → Prop} (ho : s.heap.get? a = some (baObj b)) (h : Q () s) : wpS M A (Bytes.checkResize (.ref a)) Q E s := by
  unfold Bytes.checkResize
  refine wpS_bind ?_
  show wpS M A (Bytes.exported (.ref a) >>= fun t => _) _ E s
  refine wpS_bind (wpS_exported ?_)
  show wpS M A (Bytes.exportsOf (.ref a) >>= fun n => pure (decide (n > 0))) _ E s
  unfold Bytes.exportsOf
  exact wpS_bind (wpS_bind (wpS_load ho (wpS_pure (wpS_pure (wpS_pure h)))))
end
theorem takeQuiet {id : String} {b : Array UInt8} {t : Tok} : Bytes.takeBufferQuiet? id (.bytes b t) 0 = pure (some (b, none)) := by
  unfold Bytes.takeBufferQuiet? Bytes.takeBuffer?
  rw [KBy.special_eq KBy.look_buffer, KBy.own_buffer]
  have e : Bytes.buffer? id (.bytes b t) ((0 : Int) == Bytes.fullReadOnly) = pure (some b) := by
    have : ((0 : Int) == Bytes.fullReadOnly) = false := by decide +kernel
    rw [this]; exact KBy.buffer_eq
  simp only [pure_bind]
  rw [e]
  rfl
theorem extend_eq (a : Addr) (b : Array UInt8) (t : Tok) : «bytearray.extend» ⟨[.ref a, .bytes b t], []⟩ = (do
    rule "bytearray.extend.bytes-like"
    let _ ← Bytes.payload (.ref a)
    if !b.isEmpty then Bytes.checkResize (.ref a)
    Bytes.write (.ref a) (· ++ b)
    ret .none) := by
  unfold «bytearray.extend»
  have e1 : selfAndOne "bytearray.extend" ⟨[.ref a, .bytes b t], []⟩ = pure (.ref a, .bytes b t) := rfl
  rw [e1]
  simp only [pure_bind]
  rw [KBy.special_eq KBy.look_buffer, takeQuiet]
  rfl
end BA
section
variable {c : Fx} {E : Value → Shared → Prop} {σ : St}
theorem mo_extend {a : Addr} {b : List UInt8} {Q : Value → List V → Prop} (ha : (a, Ob.ba b) ∈ σ.led) (q : Q (.builtin "bytearray.extend") [.cst (.ref a)]) : MO c E (.cst (.ref a)) "extend" σ Q := fun u hu s R pl P h => by
  have ho : s.heap.get? a = some (BA.baObj b) := R.led _ ha
  rw [show u = .ref a from hu]
  exact getMethod_builtin ⟨_, ho, rfl⟩ BA.plainAttrs BA.slot_extend BA.type_extend (fun a' e => by cases e; exact ⟨_, ho, rfl⟩) (h _ _ [.cst (.ref a)] ⟨rfl, trivial⟩ q)
theorem call_extend {a : Addr} {b x : List UInt8} {led' : Led} {Q : V → St → Prop} (U : Upd a (.ba b) (.ba (b ++ x)) σ.led led') (hz : b.length + x.length ≤ 16777216) (q : Q .none { σ with led := led' }) :
    CallO c E (.builtin "bytearray.extend") [.cst (.ref a), .bytes x] σ Q := fun vs hvs s R => by
  obtain ⟨u, v, rfl, hu, ⟨t, hv⟩⟩ := at2 hvs
  subst hv
  rw [show u = .ref a from hu]
  have ho : s.heap.get? a = some (BA.baObj b) := R.led _ U.mem
  refine call_slotS BA.slot_extend ⟨_, ho, rfl⟩ (fun _ => clean_of (by decide +kernel) _) BA.entry_extend (BA.args_extend _ _) ?_
  rw [BA.extend_eq]
  refine wpS_bind (wpS_rule (wpS_bindL (BA.payloadS ho ?_)))
  have fin : wpS (model c.g.prog c.g.w) c.A.in1 (Builtin.Bytes.write (.ref a) (· ++ x.toArray) >>= fun _ => ret .none) (fun fin s' => ∃ v, fin = .done (.ret v) ∧ ∃ v_1 σ', Rel c σ' s' ∧ v_1.At v ∧ Q v_1 σ') E s := by
    refine wpS_bindL (BA.writeS (m := b ++ x) ho (by simp) (by simpa using hz) fun h' hs hg => ?_)
    refine wpS_pure ⟨.none, rfl, .none, _, R.upd U rfl (.head _) (fun d ob hd e => (hs.2 d hd).trans e) hg, rfl, q⟩
  by_cases he : x.toArray.isEmpty = true
  · rw [he]; exact fin
  · have he' : x.toArray.isEmpty = false := by simpa using he
    rw [he']
    exact wpS_bind (BA.checkResizeS ho fin)
theorem call_lenB {b : List UInt8} {Q : V → St → Prop} (hz : b.length ≤ 16777216) (q : Q (.int b.length) σ) : CallO c E (.builtin "len") [.bytes b] σ Q := fun vs hvs s R => by
  obtain ⟨u, rfl, ⟨t, hu⟩⟩ := at1 hvs
  subst hu
  refine wpS_of (len_bytes (by simp; (walk_at "o")) ?_)
  have e : ((b.toArray.size : Nat) : Int) = b.length := by simp
  rw [e]; exact hasI R q
theorem call_lenL {a : Addr} {xs : List V} {Q : V → St → Prop} (ha : (a, Ob.list xs) ∈ σ.led) (hz : xs.length ≤ 16777216) (q : Q (.int xs.length) σ) : CallO c E (.builtin "len") [.cst (.ref a)] σ Q := fun vs hvs s R => by
  obtain ⟨u, rfl, hu⟩ := at1 hvs
  obtain ⟨us, n, hl, hus⟩ := R.led _ ha
  rw [show u = .ref a from hu]
  have e : ((us.toArray.size : Nat) : Int) = xs.length := by rw [List.size_toArray, atAll_length hus]
  refine wpS_of (call_len_list (isList_of hl) (by rw [e]; (walk_at "o")) ?_)
  rw [e]; exact hasI R q
theorem gives_len {a : Addr} {b : List UInt8} {M : Model} {A : Around} {s : Shared} {Q : Fin → Shared → Prop} (ho : s.heap.get? a = some (BA.baObj b)) (h : Q (.done (.ret (.int b.length s.toks))) { s with toks := s.toks + 1 }) :
    wpAny M A (Builtin.«bytearray.__len__» ⟨[.ref a], []⟩) Q E s := by
  show wpAny M A (Builtin.Bytes.payload (.ref a) >>= fun b => retInt b.size) _ _ _
  refine wpAny_bind (BA.payloadS ho ?_)
  refine wpAny_bind (wpAny_mkInt (wpAny_pure ?_))
  simpa using h
theorem call_lenA {a : Addr} {b : List UInt8} {Q : V → St → Prop} (ha : (a, Ob.ba b) ∈ σ.led) (hz : b.length ≤ 16777216) (q : Q (.int b.length) σ) : CallO c E (.builtin "len") [.cst (.ref a)] σ Q := fun vs hvs s R => by
  obtain ⟨u, rfl, hu⟩ := at1 hvs
  have ho : s.heap.get? a = some (BA.baObj b) := R.led _ ha
  rw [show u = .ref a from hu]
  refine wpS_of (call_function_entry kind_len plain_len entry_len (args_len1 _) ?_)
  unfold Builtin.«len»
  refine wpAny_bind (m := oneArg "len" _) (wpAny_pure ?_)
  refine wpAny_bind (m := callSpecial? (.ref a) (Str.ofString "__len__")) (wpAny_callSpecial?_slot (name := Str.ofString "__len__") ⟨_, ho, rfl⟩ BA.slot_len
    (wpAny_call_entry BA.slot_len ⟨_, ho, rfl⟩ BA.entry_len ?_ (BA.args_len _)))
  refine gives_len ho ⟨_, rfl, ?_⟩
  refine wpAny_bind (wpAny_holding (wpAny_pure ?_))
  refine wpAny_bind (wpAny_letGo ?_)
  show wpAny _ _ (if ((b.length : Nat) : Int) < 0 then _ else _) _ _ _
  rw [if_neg (by walk_at "o")]
  show wpAny _ _ (if ((b.length : Nat) : Int) ≥ 2 ^ 63 then _ else _) _ _ _
  rw [if_neg (by walk_at "o")]
  exact wpAny_bind (wpAny_mkInt (wpAny_pure ⟨_, rfl, hasI R.toks q⟩))
theorem mo_append {a : Addr} {xs : List V} {Q : Value → List V → Prop} (ha : (a, Ob.list xs) ∈ σ.led) (q : Q (.builtin "list.append") [.cst (.ref a)]) : MO c E (.cst (.ref a)) "append" σ Q := fun u hu s R pl P h => by
  obtain ⟨us, n, hl, hus⟩ := R.led _ ha
  rw [show u = .ref a from hu]
  exact getMethod_list_append hl rfl rfl (h _ _ [.cst (.ref a)] ⟨rfl, trivial⟩ q)
theorem call_append {a : Addr} {xs : List V} {x : V} {led' : Led} {Q : V → St → Prop} (U : Upd a (.list xs) (.list (xs ++ [x])) σ.led led') (hz : xs.length ≤ 16777216) (q : Q .none { σ with led := led' }) :
    CallO c E (.builtin "list.append") [.cst (.ref a), x] σ Q := fun vs hvs s R => by
  obtain ⟨u, v, rfl, hu, hv⟩ := at2 hvs
  obtain ⟨us, n, hl, hus⟩ := R.led _ U.mem
  rw [show u = .ref a from hu]
  refine wpS_of (append_at hl (fun h' hs hg => ?_) (by rw [List.size_toArray, atAll_length hus, sizeLine_eq]; exact hz))
  refine ⟨.none, _, R.upd U rfl (.head _) (fun d ob hd e => (hs.2 d hd).trans e) ⟨us ++ [v], n + 1, ?_, atAll_append hus ⟨hv, trivial⟩⟩, rfl, q⟩
  rw [hg]; simp
theorem new_at {s : Shared} {o : Obj} : ∀ b ∈ [s.heap.objs.size], s.heap.get? b = none := by
  intro b hb
  rcases List.mem_cons.mp hb with rfl | hb
  · cases q : s.heap.get? s.heap.objs.size with
    | none => rfl
    | some o => exact absurd (Heap.lt_size q) (Nat.lt_irrefl _)
  · cases hb
theorem Rel.push {s : Shared} {t : Tok} (R : Rel c σ s) {o : Obj} {ob : Ob} (hm : ob.more = []) (x : ob.At (s.heap.push o) s.heap.objs.size) : Rel c { σ with led := (s.heap.objs.size, ob) :: σ.led } { s with heap := s.heap.push o, toks := t } :=
  R.fresh (fun b o e => Heap.get?_push_of_some _ e) (by rw [hm]; exact new_at (o := o)) (by rw [hm]; simp) x
theorem seqOk {xs : List V} {vs : List Value} {n : Nat} (hx : AtAll xs vs) (hz : xs.length ≤ 16777216) : sizeOk (.seq vs.toArray n) := by
  show vs.toArray.size ≤ sizeLine
  rw [List.size_toArray, sizeLine_eq, atAll_length hx]; exact hz
noncomputable abbrev KList (Q : V → St → Prop) : List V → St → Prop := fun xs σ₁ => xs.length ≤ 16777216 ∧ ∀ a, Q (.cst (.ref a)) { σ₁ with led := (a, .list xs) :: σ₁.led }
theorem e_list {es : List Expr} {pos : Pos} {Q : V → St → Prop} (hs : es.all notStar = true) (h : SW c E es σ (KList Q)) : WE c E (.List es pos) σ Q := fun s R => by
  show wpS _ _ (standAt pos >>= fun _ => spliced (backTo pos (starEach es c.env)) >>= fun vs => newList vs) _ _ _
  refine wpS_bind (wpS_standAt (wpS_bind ?_))
  rw [backTo_plain pos c.env hs]
  refine wpS_mono (h s R) (fun vs s₁ zq => ?_) fun _ _ z => z
  obtain ⟨xs, σ₁, R₁, hx, hz, q⟩ := zq
  refine wpS_of (wpAny_newObj_type ?_ (seqOk hx hz))
  exact ⟨.cst (.ref _), _, R₁.push (ob := .list xs) rfl ⟨vs, 0, Heap.get?_push_size _ rfl, hx⟩, rfl, q _⟩
noncomputable abbrev KTup (Q : V → St → Prop) : List V → St → Prop := fun xs σ₁ => xs.length ≤ 16777216 ∧ ∀ a, Q (.cst (.ref a)) { σ₁ with led := (a, .tup xs) :: σ₁.led }
theorem e_tuple {es : List Expr} {k : Nat} {pos : Pos} {Q : V → St → Prop} (hs : es.all notStar = true) (h : SW c E es σ (KTup Q)) : WE c E (.Tuple es k pos) σ Q := fun s R => by
  show wpS _ _ (standAt pos >>= fun _ => spliced (backTo pos (starEach es c.env)) >>= fun vs => newTuple vs) _ _ _
  refine wpS_bind (wpS_standAt (wpS_bind ?_))
  rw [backTo_plain pos c.env hs]
  refine wpS_mono (h s R) (fun vs s₁ zq => ?_) fun _ _ z => z
  obtain ⟨xs, σ₁, R₁, hx, hz, q⟩ := zq
  refine wpS_of (wpAny_newObj_type ?_ (seqOk hx hz))
  exact ⟨.cst (.ref _), _, R₁.push (ob := .tup xs) rfl ⟨vs, ⟨_, Heap.get?_push_size _ rfl, rfl, 0, rfl⟩, hx⟩, rfl, q _⟩
end
section
variable {prog : Program} {w : World} {A : Around} {E : Value → Shared → Prop} {s : Shared}
theorem typeCall_eq {T n i : String} (ft : TypeCalled T n i) {args : List Value} (hct : checkTypeCall T ⟨args, []⟩ = pure ()) : Builtin.«type.__call__» ⟨.type T :: args, []⟩ = (do
    let obj ← holding [.builtin n] (call (.builtin n) (.type T :: args))
    if !(← isInstance obj (.type T)) then rule "type.call.new-gave-other-type"; return ← ret obj
    match ← holding [obj] (callSpecial? obj "__init__" args) with
    | none => ret obj
    | some r =>
      if r != .none then
        rule "type.call.init-returned-value"
        raiseError "TypeError" s!"__init__() should return None, not '{← typeNameOf r}'"
      ret obj) := by
  unfold Builtin.«type.__call__»
  obtain ⟨c, tl, hmro⟩ := ft.mro
  have h1 := ft.notType
  have h2 := ft.canCreate
  have h3 := ft.made
  simp only [h1, Bool.false_eq_true, if_false, h2, hct, hmro, h3, pure_bind, List.isEmpty_cons]
  rfl
theorem callTypeS {T n i : String} {args : List Value} {Q : Value → Shared → Prop} (ft : TypeCalled T n i) (hct : checkTypeCall T ⟨args, []⟩ = pure ())
    (h : wpAny (model prog w) A.in1 (call (.builtin n) (.type T :: args)) (fun obj s₁ => s₁.TypeIs obj T ∧
      wpS (model prog w) A.in1 (call (.builtin i) (obj :: args)) (fun r s₂ => r = .none ∧ Q obj s₂) E s₁) E s) : wpS (model prog w) A (call (.type T) args) Q E s := by
  refine wpS_call (codeS_of_tree rfl ?_)
  show wpS _ _ (callAny (.type T) _) _ _ _
  refine wpS_pure ⟨Code.quiet_builtin _ (by decide +kernel), codeS_builtin (clean_of (by decide +kernel) _) F.entry_type_call ?_⟩
  rw [Around.under_plain (weight_type_call_type T args []) rfl]
  rw [typeCall_eq ft hct]
  refine wpS_bind (wpS_holding (wpS_mono (wpS_of h) (fun obj s₁ zq => ?_) fun _ _ x => x))
  obtain ⟨hT, h₁⟩ := zq
  refine wpS_bindL (wpAny_isInstance hT ft.sub ?_)
  have key : wpS (model prog w) A.in1 (callSpecial? obj "__init__" args) (fun r s₂ => r = some .none ∧ Q obj s₂) E s₁ := by
    unfold callSpecial?
    refine wpS_bindL (wpAny_specialOf hT ft.init.lookup ?_)
    refine wpS_holding ?_
    rw [ft.init.bind obj]
    refine wpS_bind (wpS_pure ?_)
    exact wpS_bind (wpS_mono h₁ (fun r s₂ zq => by obtain ⟨e, q⟩ := zq; exact wpS_pure ⟨by rw [e], q⟩) fun _ _ x => x)
  refine wpS_bind (wpS_holding (wpS_mono key (fun r s₂ zq => ?_) fun _ _ x => x))
  obtain ⟨e, q⟩ := zq
  subst e
  exact wpS_pure q
end
section
variable {c : Fx} {σ : St} {s : Shared}
theorem Fx.frs_own (h : c.own = true) : c.frs = c.env :: c.outer := if_pos h
theorem Fx.frs_not (h : c.own = false) : c.frs = c.outer := if_neg (by rw [h]; exact Bool.false_ne_true)
theorem ns_data {h h' : Heap} {L : Addr} {m : Str → Option Value} (x : h.Ns L m) (k : ∀ o, h.get? L = some o → ∃ o', h'.get? L = some o' ∧ o'.data = o.data) : h'.Ns L m := by
  obtain ⟨o, es, ep, e, ed, r⟩ := x
  obtain ⟨o', e', d⟩ := k o e
  exact ⟨o', es, ep, e', d.trans ed, r⟩
theorem Rel.outs (R : Rel c σ s) : s.heap.FunFrames c.g.base c.frs := by
  have key : ∀ l : List Env, (∀ b ∈ l.filterMap (·.frame), b ∈ c.outs) → c.h₀.FunFrames c.g.base l → (∀ e ∈ l, ∀ a ∈ c.W, e.frame ≠ some a) → s.heap.FunFrames c.g.base l := by
    intro l
    induction l with
    | nil => intros; trivial
    | cons e l ih =>
      intro hin ⟨hk, ⟨L, o, hf, hn, ho, hd⟩, hr⟩ hW
      obtain ⟨o', e', ed, _⟩ := R.keep L o ho fun hb => hW e (.head _) L hb hf
      refine ⟨hk, ⟨L, o', hf, hn, e', fun vs => by rw [ed]; exact hd vs⟩, ih (fun b hb => hin b ?_) hr fun e' he' => hW e' (.tail _ he')⟩
      rw [List.filterMap_cons, hf]; exact .tail _ hb
  have ko := key c.outer (fun b hb => hb) R.ok.out R.ok.outW
  cases q : c.own with
  | false => rw [Fx.frs_not q]; exact ko
  | true =>
    rw [Fx.frs_own q]
    obtain ⟨m, hm, _⟩ := R.loc
    refine Heap.FunFrames.cons (by rw [R.ok.fn]; decide) (R.ok.frame q) hm ?_ ko
    cases e : c.g.base.get? c.env.locals with
    | none => rfl
    | some o => have := R.ok.base _ _ e; rw [R.ok.L] at this; cases this
theorem someLed_of : ∀ l : Led, (∀ p ∈ l, p.2.At s.heap p.1) → ∀ b ∈ addrs l, (s.heap.get? b).isSome = true := by
  intro l
  induction l with
  | nil => intro _ b hb; cases hb
  | cons p l ih =>
    intro hl b hb
    rcases List.mem_cons.mp (show b ∈ p.1 :: (p.2.more ++ addrs l) from hb) with rfl | hb
    · exact lt_of_at (hl p (.head _)) _ (.head _)
    · rcases List.mem_append.mp hb with hb | hb
      · exact lt_of_at (hl p (.head _)) _ (.tail _ hb)
      · exact ih (fun q hq => hl q (.tail _ hq)) b hb
theorem Rel.someLed (R : Rel c σ s) : ∀ b ∈ addrs σ.led, (s.heap.get? b).isSome = true := someLed_of _ R.led
theorem outs_some {h base : Heap} : ∀ {l : List Env}, h.FunFrames base l → ∀ b ∈ l.filterMap (·.frame), ∃ o, h.get? b = some o
  | [], _, b, hb => by cases hb
  | env :: rest, ⟨_, ⟨L, o, hf, hn, ho, _⟩, hr⟩, b, hb => by
    rw [List.filterMap_cons, hf] at hb
    rcases List.mem_cons.mp hb with rfl | hb
    · exact ⟨o, ho⟩
    · exact outs_some hr b hb
theorem Rel.ledOuts (R : Rel c σ s) {d : Addr} (hd : d ∈ addrs σ.led) : d ∉ c.outs := fun hm => by
  rcases R.own d hd with h | h
  · obtain ⟨e, he, hf⟩ := List.mem_filterMap.mp hm
    exact R.ok.outW e he d h hf
  · obtain ⟨o, ho⟩ := outs_some R.ok.out d hm
    rw [h] at ho; cases ho
theorem Fx.frames_of (R : Rel c σ s) {d : Addr} (hd : d ∈ c.frs.filterMap (·.frame)) : (c.own = true ∧ d = c.env.locals) ∨ d ∈ c.outs := by
  cases q : c.own with
  | false => rw [Fx.frs_not q] at hd; exact .inr hd
  | true =>
    rw [Fx.frs_own q, List.filterMap_cons, R.ok.frame q] at hd
    rcases List.mem_cons.mp hd with rfl | hd
    · exact .inl ⟨rfl, rfl⟩
    · exact .inr hd
theorem Rel.ledFrs (R : Rel c σ s) {d : Addr} (hd : d ∈ addrs σ.led) : d ∉ c.frs.filterMap (·.frame) := fun hm => by
  rcases Fx.frames_of R hm with ⟨_, rfl⟩ | h
  · have := R.nd; rw [List.nodup_cons] at this; exact this.1 hd
  · exact R.ledOuts hd h
theorem Rel.renew {l : Led} {e : Addr} {o o' : Ob} (R : Rel c { σ with led := (e, o) :: l } s) {h' : Heap} {t : Tok}
    (k : ∀ d ob, d ≠ e → d ∉ o.more → d ∉ c.frs.filterMap (·.frame) → s.heap.get? d = some ob → h'.get? d = some ob)
    (kf : ∀ d ∈ c.frs.filterMap (·.frame), ∀ ob, s.heap.get? d = some ob → ∃ sl, h'.get? d = some { ob with slots := sl })
    (new : ∀ b ∈ o'.more, s.heap.get? b = none) (nd : (e :: o'.more).Nodup) (x : o'.At h' e) : Rel c { σ with led := (e, o') :: l } { s with heap := h', toks := t } := by
  have nd0 := R.nd
  have nd1 : c.env.locals ∉ addrs ((e, o) :: l) ∧ (e :: (o.more ++ addrs l)).Nodup := List.nodup_cons.mp nd0
  have nd2 := List.nodup_cons.mp nd1.2
  have nd3 := List.nodup_append.mp nd2.2
  have eIn : e ∈ addrs ((e, o) :: l) := .head _
  have mIn : ∀ d ∈ o.more, d ∈ addrs ((e, o) :: l) := fun d hd => .tail _ (List.mem_append_left _ hd)
  have lIn : ∀ d ∈ addrs l, d ∈ addrs ((e, o) :: l) := fun d hd => .tail _ (List.mem_append_right _ hd)
  have lk : ∀ d ∈ addrs l, ∀ ob, s.heap.get? d = some ob → h'.get? d = some ob := fun d hd ob he => by
    refine k d ob (fun q => nd2.1 (q ▸ List.mem_append_right _ hd)) (fun q => nd3.2.2 d q d hd rfl) (R.ledFrs (lIn d hd)) he
  have notH : ∀ d ∈ addrs ((e, o) :: l), d ∉ c.W → c.h₀.get? d = none := fun d hd hw => (R.own d hd).resolve_left hw
  have old : ∀ b ∈ c.env.locals :: addrs ((e, o) :: l), (s.heap.get? b).isSome = true := by
    intro b hb
    rcases List.mem_cons.mp hb with rfl | hb
    · obtain ⟨m, ⟨oL, es, ep, eL, _⟩, _⟩ := R.loc; rw [eL]; rfl
    · exact R.someLed b hb
  have ne : ∀ b ∈ o'.more, ∀ b' ∈ c.env.locals :: addrs ((e, o) :: l), b ≠ b' := fun b hb b' hb' q => by
    subst q; have := old b hb'; rw [new b hb] at this; cases this
  refine { R with loc := ?_, led := ?_, nd := ?_, own := ?_, keep := ?_ }
  · obtain ⟨m, hm, hx⟩ := R.loc
    refine ⟨m, ns_data hm fun ob he => ?_, hx⟩
    by_cases hf : c.env.locals ∈ c.frs.filterMap (·.frame)
    · obtain ⟨sl, hs⟩ := kf _ hf ob he
      exact ⟨_, hs, rfl⟩
    · exact ⟨ob, k _ _ (fun q => nd1.1 (q ▸ eIn)) (fun q => nd1.1 (mIn _ q)) hf he, rfl⟩
  · intro p hp
    rcases List.mem_cons.mp hp with rfl | hp
    · exact x
    · exact at_of (R.led p (.tail _ hp)) fun b hb ob he => lk b (mem_addrs hp b hb) ob he
  · show (c.env.locals :: e :: (o'.more ++ addrs l)).Nodup
    refine List.nodup_cons.mpr ⟨fun hm => ?_, ?_⟩
    · rcases List.mem_cons.mp hm with q | hm
      · exact nd1.1 (q ▸ eIn)
      · rcases List.mem_append.mp hm with hm | hm
        · exact ne _ hm _ (.head _) rfl
        · exact nd1.1 (lIn _ hm)
    · rw [← List.cons_append]
      refine nodup_append_iff.mpr ⟨nd, nd3.2.1, fun a ha b hb q => ?_⟩
      subst q
      rcases List.mem_cons.mp ha with rfl | ha
      · exact nd2.1 (List.mem_append_right _ hb)
      · exact ne _ ha _ (.tail _ (lIn _ hb)) rfl
  · intro b hb
    rcases List.mem_cons.mp (show b ∈ e :: (o'.more ++ addrs l) from hb) with rfl | hb
    · exact R.own _ eIn
    · rcases List.mem_append.mp hb with hb | hb
      · by_cases q : b ∈ c.W
        · exact .inl q
        · refine .inr ?_
          cases e1 : c.h₀.get? b with
          | none => rfl
          | some ob => obtain ⟨o1, e2, _⟩ := R.keep b ob e1 q; rw [new b hb] at e2; cases e2
      · exact R.own _ (lIn _ hb)
  · intro b ob hb hw
    obtain ⟨o1, e1, d1, q1⟩ := R.keep b ob hb hw
    by_cases hf : b ∈ c.frs.filterMap (·.frame)
    · obtain ⟨sl, hs⟩ := kf b hf o1 e1
      refine ⟨_, hs, d1, fun hn => ?_⟩
      rcases Fx.frames_of R hf with ⟨_, rfl⟩ | h
      · rw [R.ok.L] at hb; cases hb
      · exact (hn h).elim
    · refine ⟨o1, k b o1 (fun q => ?_) (fun q => ?_) hf e1, d1, q1⟩
      · subst q; rw [notH b eIn hw] at hb; cases hb
      · rw [notH b (mIn b q) hw] at hb; cases hb
theorem isFreed_fields {o : Obj} {vs : Array Value} (h : o.data = .fields vs) : o.isFreed = false := by
  obtain ⟨c, d, dt, sl⟩ := o; cases h; rfl
section
variable {M : Model} {A : Around} {E : Value → Shared → Prop} {led : Led} {e C L : Addr}
theorem Rel.entry {o : Ob} {oe tb : Obj} {vs ts : Array Value} {h₁ : Heap} (R : Rel c { σ with led := (e, o) :: led } s) (eF : e ∉ c.frs.filterMap (·.frame)) (k : ∀ b, b ∉ c.frs.filterMap (·.frame) → h₁.get? b = s.heap.get? b)
    (kf : ∀ b ob, s.heap.get? b = some ob → ∃ sl, h₁.get? b = some { ob with slots := sl }) (he : h₁.get? e = some oe) (hc : oe.cls = .ref C) (hd : oe.data = .fields vs) (hsz : 1 < vs.size) {v : Value} (hd' : tb.data = .fields ts) (ht : ts[3]? = some v) :
    Rel c { σ with led := (e, .exc C (some (h₁.objs.size, v))) :: led } { s with heap := (h₁.push tb).update e (Obj.mapFields (·.setIfInBounds 1 (Value.ref h₁.objs.size))) } := by
  have ne : e ≠ h₁.objs.size := fun q => absurd (Heap.lt_size he) (by rw [q]; exact Nat.lt_irrefl _)
  have other : ∀ d ob, d ≠ e → h₁.get? d = some ob → ((h₁.push tb).update e (Obj.mapFields (·.setIfInBounds 1 (Value.ref h₁.objs.size)))).get? d = some ob := fun d ob hne hb => by
    rw [Heap.get?_update_other _ _ (Ne.symm hne)]
    exact Heap.get?_push_of_some _ hb
  have d3 := Obj.data_mapFields hd (·.setIfInBounds 1 (Value.ref h₁.objs.size))
  refine R.renew (o' := .exc C (some (h₁.objs.size, v))) (t := s.toks) (fun d ob hne hm hf hb => other d ob hne ((k d hf).trans hb)) (fun d hf ob hb => ?_) (fun b hb => ?_) ?_
    ⟨_, _, _, _, Heap.get?_update_self _ (Heap.get?_push_of_some _ he) (isFreed_fields d3), (Obj.cls_mapFields _ _).trans hc, d3, by simp [hsz], ?_, hd', ht⟩
  · obtain ⟨sl, hs⟩ := kf d ob hb
    exact ⟨sl, other d _ (fun z => eF (z ▸ hf)) hs⟩
  · rcases List.mem_cons.mp hb with rfl | hb
    · cases z : s.heap.get? h₁.objs.size with
      | none => rfl
      | some ob =>
        obtain ⟨sl, hs⟩ := kf _ ob z
        exact absurd (Heap.lt_size hs) (Nat.lt_irrefl _)
    · cases hb
  · show [e, h₁.objs.size].Nodup
    simp [ne]
  · rw [Heap.get?_update_other _ _ ne]; exact Heap.get?_push_size h₁ (isFreed_fields hd')
theorem newEntryS {o : Ob} {oe : Obj} {vs : Array Value} {head : Value} {b : Bool} {Q : Unit → Shared → Prop} (R : Rel c { σ with led := (e, o) :: led } s) (hown : c.own = true) (hA : A.frames = some c.frs)
    (hL : L = c.env.locals) (he : s.heap.get? e = some oe) (hc : oe.cls = .ref C) (hd : oe.data = .fields vs) (hsz : 1 < vs.size)
    (q : ∀ h' T, Rel c { σ with led := (e, .exc C (some (T, rawInt L))) :: led } { s with heap := h' } → Q () { s with heap := h' }) :
    wpAny M A (do let a ← frameOf c.env; let pl ← entryPlaceOf L b; let x ← EntryCells.newEntry head a .none (rawInt L) .none pl; setField (.ref e) 1 x) Q E s := by
  subst hL
  have hfl := R.outs
  have eF : e ∉ c.frs.filterMap (·.frame) := R.ledFrs (.head _)
  have hfr := Fx.frs_own hown
  rw [hfr] at hA hfl
  refine wpAny_bind (wpAny_frameOf_fun hA hfl (R.ok.frame hown) fun h₁ hs => wpAny_bind (wpAny_entryPlaceOf fun pl hpl => ?_))
  have k := hs.2.1
  rw [← hfr] at k
  have he' := (k e eF).trans he
  unfold EntryCells.newEntry newFields
  refine wpAny_bind (wpAny_newObj_type (wpAny_setField (Heap.get?_push_of_some _ he') hd hsz (q _ _ (R.entry eF k hs.2.2 he' hc hd hsz rfl ?_))) (hpl.sizeOk5 _ _ _ _ _))
  first
    | (simp; done)
    | (rcases hpl with rfl | ⟨_, _, _, _, _, _, _, rfl⟩ <;> simp)
theorem Rel.excUpd {T : Addr} {v v' : Value} (R : Rel c { σ with led := (e, .exc C (some (T, v))) :: led } s) {oT : Obj} {ts : Array Value} (hT : s.heap.get? T = some oT) (hd : oT.data = .fields ts) (h3 : ts[3]? = some v) (hne : T ≠ e) :
    Rel c { σ with led := (e, .exc C (some (T, v'))) :: led } { s with heap := s.heap.update T (Obj.mapFields (·.setIfInBounds 3 v')) } := by
  obtain ⟨o, vs, oT', ts', e1, e2, e3, e4, e5, e6, e7⟩ := R.led _ (.head _)
  rw [hT] at e5; cases e5
  have d3 := Obj.data_mapFields hd (·.setIfInBounds 3 v')
  refine R.upd (t := s.toks) (o := .exc C (some (T, v))) (o' := .exc C (some (T, v'))) (.head _) rfl (b := T) (.tail _ (.head _)) (fun d ob hd' he => ?_) ?_
  · rw [Heap.get?_update_other _ _ (Ne.symm hd')]; exact he
  · refine ⟨o, vs, _, _, ?_, e2, e3, e4, Heap.get?_update_self _ hT (isFreed_fields d3), d3, ?_⟩
    · rw [Heap.get?_update_other _ _ hne]; exact e1
    · have : 3 < ts.size := (Array.getElem?_eq_some_iff.mp h3).1
      simp [this]
theorem Rel.excNe {T : Addr} {v : Value} (R : Rel c { σ with led := (e, .exc C (some (T, v))) :: led } s) : T ≠ e := fun q => by
  have := R.nd
  rw [List.nodup_cons] at this
  have := this.2
  rw [show addrs ((e, Ob.exc C (some (T, v))) :: led) = e :: T :: addrs led from rfl, List.nodup_cons] at this
  exact this.1 (q ▸ .head _)
theorem setFlightS {t : Option (Addr × Value)} {f : Option Addr} {Q : Unit → Shared → Prop} (R : Rel c { σ with led := (e, .exc C t) :: led } s)
    (q : ∀ h' t', Rel c { σ with led := (e, .exc C t') :: led } { s with heap := h' } → (∀ T v, t = some (T, v) → t' = some (T, f.elim .none fun f => rawInt f)) → Q () { s with heap := h' }) : wpAny M A (setFlight (.ref e) f) Q E s := by
  unfold setFlight
  cases t with
  | none =>
    obtain ⟨o, vs, e1, e2, e3, e4⟩ := R.led _ (.head _)
    refine wpAny_bind (wpAny_field e1 e3 e4 ?_)
    rw [if_neg (by decide)]
    exact wpAny_pure (q s.heap none R fun T v z => by cases z)
  | some p =>
    obtain ⟨T, v⟩ := p
    obtain ⟨o, vs, oT, ts, e1, e2, e3, e4, e5, e6, e7⟩ := R.led _ (.head _)
    refine wpAny_bind (wpAny_field e1 e3 e4 ?_)
    rw [if_pos (show (Value.ref T != Value.none) = true by simp)]
    exact wpAny_setField e5 e6 (Array.getElem?_eq_some_iff.mp e7).1 (q _ _ (R.excUpd e5 e6 e7 R.excNe) fun T' v' z => by cases z; rfl)
theorem noteS {t : Option (Addr × Value)} {Q : Unit → Shared → Prop} (R : Rel c { σ with led := (e, .exc C t) :: led } s) (hown : c.own = true) (hA : A.frames = some c.frs)
    (q : ∀ h' T, Rel c { σ with led := (e, .exc C (some (T, rawInt c.env.locals))) :: led } { s with heap := h' } → Q () { s with heap := h' }) : wpAny M A (noteFrame (.ref e) c.env) Q E s := by
  unfold noteFrame
  simp only [R.ok.frame hown]
  cases t with
  | none =>
    obtain ⟨o, vs, e1, e2, e3, e4⟩ := R.led _ (.head _)
    refine wpAny_bind (wpAny_field e1 e3 e4 ?_)
    rw [if_neg (by decide)]
    exact newEntryS R hown hA rfl e1 e2 e3 (Array.getElem?_eq_some_iff.mp e4).1 q
  | some p =>
    obtain ⟨T, v⟩ := p
    obtain ⟨o, vs, oT, ts, e1, e2, e3, e4, e5, e6, e7⟩ := R.led _ (.head _)
    refine wpAny_bind (wpAny_field e1 e3 e4 ?_)
    rw [if_pos (show (Value.ref T != Value.none) = true by simp)]
    refine wpAny_bind (wpAny_field e5 e6 e7 ?_)
    by_cases hv : (v == rawInt c.env.locals) = true
    · rw [if_pos hv]
      have : v = rawInt c.env.locals := beq_iff_eq.mp hv
      subst this
      exact wpAny_pure (q s.heap T R)
    · rw [if_neg hv]
      refine wpAny_bind (wpAny_setField e5 e6 (Array.getElem?_eq_some_iff.mp e7).1 ?_)
      have R' := R.excUpd (v' := .none) e5 e6 e7 R.excNe
      exact newEntryS R' hown hA rfl (by rw [Heap.get?_update_other _ _ R.excNe]; exact e1) e2 e3 (Array.getElem?_eq_some_iff.mp e4).1 fun h' T' R'' => q h' T' R''
theorem leaveS {t : Option (Addr × Value)} {Q : Unit → Shared → Prop} (R : Rel c { σ with led := (e, .exc C t) :: led } s) (hown : c.own = true) (hA : A.frames = some c.frs)
    (q : ∀ h' t', Rel c { σ with led := (e, .exc C t') :: led } { s with heap := h' } → Q () { s with heap := h' }) : wpAny M A (leaving c.env (.ref e)) Q E s := by
  unfold leaving
  exact wpAny_bind (noteS R hown hA fun h' T R' => setFlightS R' fun h'' t' R'' _ => q h'' t' R'')
end
end
section
variable {prog : Program} {w : World} {A : Around} {E : Value → Shared → Prop} {s : Shared} {R : Result → Shared → Prop}
noncomputable abbrev BodyS (prog : Program) (w : World) (A : Around) (env : Env) (body : List Stmt) (R : Result → Shared → Prop) (s : Shared) : Prop :=
  wpS (model prog w) (A.deeper env) (execs body env) (fun f s' => R (.ok (.ret (match f with | .ret v => v | _ => .none))) s')
    (fun e s' => wpS (model prog w) (A.deeper env) (leaving env e) (fun _ s'' => R (.error e) s'') (fun e' s'' => R (.error e') s'') s') s
theorem codeS_func {body : List Stmt} {env : Env} (h : BodyS prog w A env body R s) :
    codeS (model prog w) A (.func body env) R s := by
  refine codeS_of_tree rfl ?_
  show wpS _ (A.deeper env) (point >>= fun _ => (execs body env).onRaise (leaving env) >>= fun f => match f with | .ret v => ret v | _ => ret .none) _ _ s
  refine wpS_bind (wpS_point (wpS_bind (wpS_onRaise (wpS_mono h (fun f s' h' => ?_) fun e s' h' => ?_))))
  · cases f <;> exact wpS_pure h'
  · exact wpS_mono h' (fun _ _ x => x) fun _ _ x => x
theorem codeS_call_function {a : Addr} {args : Args} {o : Obj} {fd : FuncData} {body : List Stmt} {binds : List (Str × Value)} (hroom : A.depth < recursionLimit)
    (ho : s.heap.get? a = some o) (hd' : o.data = .func fd) (hco : fd.scope.isCoroutine = false) (hgen : fd.scope.isGenerator = false) (hbody : fd.body = .stmts body) (hcd : s.heap.CodeRec fd.code fd.qualname)
    (hbind : bindArgs fd args = pure binds)
    (h : wpAny (model prog w) A.in1 (newFunctionEnv fd.scope fd.globals fd.closure binds (fd.qualname ++ ".<locals>.") (some a) fd.code none fd.builtins)
        (fun env s₂ => s₂.heap.NoLimit ∧ codeS (model prog w) A (.func body env) R s₂) (fun e s' => R (.error e) s') s) :
    codeS (model prog w) A (.call (.ref a) args) R s := by
  refine codeS_of_tree rfl ?_
  show wpS _ A.in1 (callAny (.ref a) args) _ _ s
  simp only [callAny]
  refine wpS_bind (wpS_load ho ?_)
  obtain ⟨c, oc, vs, tq, hc, hoc, hdc, hq⟩ := hcd
  simp only [hd', callFunction, hco, hgen, hbody, hc]
  rw [hc] at h
  refine wpS_bindL (m := field (.ref c) 1) (wpAny_field hoc hdc hq (wpS_bind (wpS_pure ?_)))
  rw [hbind]
  refine wpS_bind (wpS_pure (wpS_bindL (wpAny_mono h (fun env s₂ h₂ => wpS_bindL (wpAny_enterFrame h₂.1 hroom (wpS_pure (And.intro rfl h₂.2)))) fun _ _ x => x)))
theorem codeS_call_def {a : Addr} {o : Obj} {fd : FuncData} {body : List Stmt} {args : Args} {binds : List (Str × Value)} (room : A.depth < recursionLimit) (ho : s.heap.get? a = some o) (hd : o.data = .func fd) (lim : s.heap.NoLimit)
    (code : s.heap.CodeRec fd.code fd.qualname) (hb : fd.body = .stmts body) (hbind : bindArgs fd args = pure binds) (nocell : ∀ x ∈ fd.scope.names, x.2 ≠ .cell) (locals : ∀ x ∈ binds, fd.scope.names.lookup x.1 = some .local)
    (co : fd.scope.isCoroutine = false) (gen : fd.scope.isGenerator = false) (kind : fd.scope.kind = .function)
    (h : ∀ h', h'.Ns s.heap.objs.size (fun x => binds.reverse.lookup x) → (∀ b o, s.heap.get? b = some o → h'.get? b = some o) → BodyS prog w A (callEnv fd s.heap.objs.size a) body R { s with heap := h', toks := s.toks + binds.length }) :
    codeS (model prog w) A (.call (.ref a) args) R s :=
  codeS_call_function room ho hd co gen hb code hbind (wpAny_newFunctionEnv nocell locals (fun h' n k =>
    ⟨lim.fresh _ k, codeS_func (h h' n fun b o e => k.extBut b o (Nat.ne_of_lt (Heap.lt_size e)) (Heap.get?_push_of_some _ e))⟩) kind)
end
structure FnAt (K : Frag) (a : Addr) (fd : FuncData) (body : List Stmt) (ps : List Str) : Prop where
  obj : ∃ o, K.lookup a = some o ∧ o.data = .func fd
  code : ∃ c o vs t, fd.code = .ref c ∧ K.lookup c = some o ∧ o.data = .fields vs ∧ vs[1]? = some (.str fd.qualname t)
  body : fd.body = .stmts body
  bind : ∀ vs, vs.length = ps.length → bindArgs fd ⟨vs, []⟩ = pure (ps.zip vs)
  glob : fd.globals = mainGlobals
  bi : fd.builtins = builtinsNs
  kind : fd.scope.kind = .function
  co : fd.scope.isCoroutine = false
  gen : fd.scope.isGenerator = false
  nd : (fd.scope.names.map Prod.fst).Nodup
  dbg : ∀ p ∈ fd.scope.names, (p.1 == ("__debug__" : Str)) = false
theorem lookup_mem {l : List (Str × NameKind)} (nd : (l.map Prod.fst).Nodup) {x : Str} {k : NameKind} (h : (x, k) ∈ l) : l.lookup x = some k := by
  induction l with
  | nil => cases h
  | cons p l ih =>
    obtain ⟨y, k'⟩ := p
    rw [List.map_cons, List.nodup_cons] at nd
    rcases List.mem_cons.mp h with e | h
    · cases e; rw [List.lookup_cons]; simp
    · have : (x == y) = false := beq_eq_false_iff_ne.mpr fun e => nd.1 (List.mem_map.mpr ⟨_, h, e⟩)
      rw [List.lookup_cons, this]; exact ih nd.2 h
theorem FnAt.codeRec {K : Frag} {a : Addr} {fd : FuncData} {body : List Stmt} {ps : List Str} (F : FnAt K a fd body ps) {h : Heap} (X : K.In h) : h.CodeRec fd.code fd.qualname := by
  obtain ⟨c, o, vs, t, e, l, d, v⟩ := F.code
  exact ⟨c, o, vs, t, e, X _ _ l, d, v⟩
structure Caller (g : Gx) (s : Shared) (led : Led) (frs : List Env) : Prop where
  gok : g.Ok
  base : ∀ b o, g.base.get? b = some o → s.heap.get? b = some o
  W : ∀ a ∈ addrs led, g.base.get? a = none
  at_ : ∀ p ∈ led, p.2.At s.heap p.1
  nd : (addrs led).Nodup
  out : s.heap.FunFrames g.base frs
  outW : ∀ e ∈ frs, ∀ a ∈ addrs led, e.frame ≠ some a
noncomputable def calleeFx (g : Gx) (s : Shared) (led : Led) (frs : List Env) (A : Around) (n : Nat) (env : Env) : Fx :=
  { g := g, h₀ := s.heap, W := addrs led, A := A.deeper env, n := n, env := env, outer := frs, s₀ := s }
section
variable {c : Fx} {σ : St} {s : Shared} {A : Around} {n : Nat} {env : Env}
theorem Room.deeper (h : Room (n + 1) A) : Room n (A.deeper env) := by
  obtain ⟨h1, h2, h3⟩ := h
  exact ⟨by show A.depth + 1 + 8 * n < _; (walk_at "o"), by show A.units + 3 + 40 * n < _; (walk_at "o"), h3⟩
theorem Room.le {m : Nat} (h : Room n A) (hm : m ≤ n) : Room m A := by
  obtain ⟨h1, h2, h3⟩ := h
  exact ⟨by walk_at "o", by walk_at "o", h3⟩
theorem size_none (h : Heap) : h.get? h.objs.size = none := by
  cases q : h.get? h.objs.size with
  | none => rfl
  | some o => exact absurd (Heap.lt_size q) (Nat.lt_irrefl _)
theorem Rel.caller (R : Rel c σ s) : Caller c.g s σ.led c.frs where
  gok := R.ok.g
  base := R.base
  W := fun a ha => by
    rcases R.own a ha with h | h
    · exact R.ok.W a h
    · cases e : c.g.base.get? a with
      | none => rfl
      | some o => have := R.ok.base _ _ e; rw [h] at this; cases this
  at_ := R.led
  nd := (List.nodup_cons.mp R.nd).2
  out := R.outs
  outW := fun e he a ha q => R.ledFrs ha (List.mem_filterMap.mpr ⟨e, he, q⟩)
theorem Caller.ok {g : Gx} {led : Led} {frs : List Env} (C : Caller g s led frs) (hA : A.frames = some frs) (room : Room (n + 1) A) (hfn : env.scope.kind = .function) (hg : env.globals = mainGlobals) (hb : env.builtins = builtinsNs)
    (hL : env.locals = s.heap.objs.size) (hf : env.frame = some env.locals) : (calleeFx g s led frs A n env).Ok where
  g := C.gok
  base := C.base
  W := C.W
  L := by show s.heap.get? env.locals = none; rw [hL]; exact size_none _
  fn := hfn
  glob := hg
  bi := hb
  frame := fun _ => hf
  room := room.deeper
  A := Around.frames_deeper hA
  out := C.out
  outW := C.outW
theorem Rel.back (R : Rel c σ s) {c' : Fx} {σ' : St} {s' : Shared} (h0 : c'.h₀ = s.heap) (hW : c'.W = addrs σ.led) (ho : c'.outer = c.frs) (hs : c'.s₀ = s) (R' : Rel c' σ' s') : Rel c { σ with led := σ'.led } s' := by
  have nd := R.nd
  rw [List.nodup_cons] at nd
  have nd' := R'.nd
  rw [List.nodup_cons] at nd'
  obtain ⟨m, hm, hx⟩ := R.loc
  have hL : ∃ oL, s.heap.get? c.env.locals = some oL := let ⟨o, _, _, e, _⟩ := hm; ⟨o, e⟩
  obtain ⟨oL, hL⟩ := hL
  have keep' := R'.keep
  have own' := R'.own
  have same' := R'.same
  rw [h0, hW] at keep'
  rw [h0, hW] at own'
  rw [hs] at same'
  have hout : c'.outs = c.frs.filterMap (·.frame) := by show c'.outer.filterMap _ = _; rw [ho]
  refine { R with loc := ⟨m, ns_data hm fun o e => ?_, hx⟩, led := R'.led, nd := ?_, own := ?_, keep := ?_, same := ?_ }
  · obtain ⟨o', e', d, _⟩ := keep' _ _ e nd.1
    exact ⟨o', e', d⟩
  · rw [List.nodup_cons]
    refine ⟨fun hb => ?_, nd'.2⟩
    rcases own' _ hb with h | h
    · exact nd.1 h
    · rw [h] at hL; cases hL
  · intro a ha
    rcases own' a ha with h | h
    · exact R.own a h
    · by_cases q : a ∈ c.W
      · exact .inl q
      · refine .inr ?_
        cases e : c.h₀.get? a with
        | none => rfl
        | some o => obtain ⟨o', e', _⟩ := R.keep a o e q; rw [h] at e'; cases e'
  · intro b o e hb
    obtain ⟨o1, e1, d1, q1⟩ := R.keep b o e hb
    obtain ⟨o2, e2, d2, q2⟩ := keep' b o1 e1 fun h => by
      rcases R.own b h with h | h
      · exact hb h
      · rw [h] at e; cases e
    refine ⟨o2, e2, d2.trans d1, fun hn => ?_⟩
    rw [q2 fun h => ?_, q1 hn]
    rw [hout] at h
    rcases Fx.frames_of R h with ⟨_, rfl⟩ | h
    · rw [R.ok.L] at e; cases e
    · exact hn h
  · obtain ⟨a1, a2, a3⟩ := R.same
    obtain ⟨b1, b2, b3⟩ := same'
    exact ⟨b1.trans a1, b2.trans a2, b3.trans a3⟩
end
noncomputable def Rz (c : Fx) (σ : St) (X : Addr → Led → Prop) (x : Value) (s : Shared) : Prop := ∃ C led', (∃ e t, x = .ref e ∧ Rel c { σ with led := (e, .exc C t) :: led' } s) ∧ True ∧ X C led'
noncomputable def Ex (c : Fx) (X : Addr → Led → Prop) (x : Value) (s : Shared) : Prop := ∃ (C : Addr) (σ' : St), (∃ e t, x = .ref e ∧ Rel c { σ' with led := (e, .exc C t) :: σ'.led } s) ∧ X C σ'.led
noncomputable def NoX : Addr → Led → Prop := fun _ _ => False
theorem Rz.ex {c : Fx} {σ : St} {X : Addr → Led → Prop} {x : Value} {s : Shared} (h : Rz c σ X x s) : Ex c X x s := by
  obtain ⟨C, led', ⟨e, t, hx, R⟩, _, q⟩ := h
  exact ⟨C, { σ with led := led' }, ⟨e, t, hx, R⟩, q⟩
theorem FW.monoE {c : Fx} {E E' : Value → Shared → Prop} {σ : St} {t : Sem Flow} {Q : Fl → St → Prop} (h : FW c E t σ Q) (q : ∀ x s, E x s → E' x s) : FW c E' t σ Q := fun s R => wpS_mono (h s R) (fun _ _ z => z) q
theorem TW.monoE {c : Fx} {E E' : Value → Shared → Prop} {σ : St} {t : Sem Value} {Q : V → St → Prop} (h : TW c E t σ Q) (q : ∀ x s, E x s → E' x s) : TW c E' t σ Q := fun s R => wpS_mono (h s R) (fun _ _ z => z) q
noncomputable def FnS (g : Gx) (n : Nat) (f : Addr) (ys : List V) (led : Led) (Q : V → Led → Prop) (X : Addr → Led → Prop) : Prop :=
  ∀ (c : Fx) (σ : St) (s : Shared) (A : Around) (vs : List Value), c.g = g → Rel c σ s → σ.led = led → A.frames = some c.frs → Room n A → AtAll ys vs →
    wpS (model g.prog g.w) A (call (.ref f) vs) (fun u s' => ∃ v led', Rel c { σ with led := led' } s' ∧ v.At u ∧ Q v led') (Rz c σ X) s
theorem zip_unset {ps : List Str} {ys : List V} {vs : List Value} (h : AtAll ys vs) (hl : ys.length = ps.length) (nd : ps.Nodup) : ∀ p ∈ ps.zip ys, LocAt p.2 ((ps.zip vs).reverse.lookup p.1) := by
  have key : ∀ (l : List (Str × Value)), (l.map Prod.fst).Nodup → ∀ x u, (x, u) ∈ l → l.reverse.lookup x = some u := by
    intro l nd x u hm
    have nd' : (l.reverse.map Prod.fst).Nodup := by rw [List.map_reverse]; exact List.pairwise_reverse.mpr (List.Pairwise.imp (fun h => Ne.symm h) nd)
    have hm' : (x, u) ∈ l.reverse := List.mem_reverse.mpr hm
    generalize l.reverse = r at nd' hm'
    induction r with
    | nil => cases hm'
    | cons p r ih =>
      obtain ⟨y, u'⟩ := p
      rw [List.map_cons, List.nodup_cons] at nd'
      rcases List.mem_cons.mp hm' with e | hm'
      · cases e; simp [List.lookup_cons]
      · have : (x == y) = false := beq_eq_false_iff_ne.mpr fun e => nd'.1 (List.mem_map.mpr ⟨_, hm', e⟩)
        rw [List.lookup_cons, this]; exact ih nd'.2 hm'
  intro p hp
  have : ∃ u, (p.1, u) ∈ ps.zip vs ∧ p.2.At u := by
    clear key nd
    induction ps generalizing ys vs with
    | nil => cases hp
    | cons x ps ih =>
      cases ys with
      | nil => cases hl
      | cons y ys =>
        obtain ⟨u, vs, rfl, h⟩ := atC h
        rcases List.mem_cons.mp (show p ∈ (x, y) :: ps.zip ys from hp) with rfl | hp
        · exact ⟨u, .head _, h.1⟩
        · obtain ⟨u', m, a⟩ := ih h.2 (by simpa using hl) hp
          exact ⟨u', .tail _ m, a⟩
  obtain ⟨u, m, a⟩ := this
  rw [key _ (by rw [List.map_fst_zip (by rw [atAll_length h, hl]; exact Nat.le_refl _)]; exact nd) _ _ m]
  exact V.at_loc a
theorem map_unset : ∀ l : List Str, (List.map (Prod.fst ∘ fun x => (x, V.unset)) l) = l
  | [] => rfl
  | x :: l => by rw [List.map_cons, map_unset l]; rfl
noncomputable def retQ (Q : V → Led → Prop) (fl : Fl) (σ' : St) : Prop := match fl with
  | .ret v => Q v σ'.led
  | .next => Q .none σ'.led
  | _ => False
theorem bodyE {g : Gx} {s : Shared} {led : Led} {frs : List Env} {A : Around} {n : Nat} {env : Env} {body : List Stmt} {σ : St} {Q : V → Led → Prop} {X : Addr → Led → Prop} {s₁ : Shared} (hA : A.frames = some frs)
    (R : Rel (calleeFx g s led frs A n env) σ s₁) (h : WSs (calleeFx g s led frs A n env) (Ex (calleeFx g s led frs A n env) X) body σ (retQ Q)) {R' : Result → Shared → Prop}
    (ok : ∀ (u : Value) (s' : Shared) (σ' : St) (v : V), Rel (calleeFx g s led frs A n env) σ' s' → v.At u → Q v σ'.led → R' (.ok (.ret u)) s')
    (er : ∀ (e : Addr) (s' : Shared) (C : Addr) (t : Option (Addr × Value)) (σ' : St), Rel (calleeFx g s led frs A n env) { σ' with led := (e, .exc C t) :: σ'.led } s' → X C σ'.led → R' (.error (.ref e)) s') :
    BodyS g.prog g.w A env body R' s₁ := by
  refine wpS_mono (h s₁ R) (fun f s' ⟨fl, σ', R₂, hf, q⟩ => ?_) fun x s' ⟨C, σ', ⟨e, t, hx, R₂⟩, q⟩ => ?_
  · cases fl with
    | next => cases hf; exact ok .none s' σ' .none R₂ rfl q
    | ret v => obtain ⟨u, rfl, hu⟩ := hf; exact ok _ _ _ _ R₂ hu q
    | brk => exact q.elim
    | cont => exact q.elim
  · subst hx
    exact wpS_of (leaveS (c := calleeFx g s led frs A n env) R₂ rfl (Around.frames_deeper hA) fun h' t' R₃ => er _ _ _ _ _ R₃ q)
theorem callE {g : Gx} {n : Nat} {f : Addr} {fd : FuncData} {body : List Stmt} {ps more : List Str} {ys : List V} {led : Led} {frs : List Env} {A : Around} {s : Shared} {vs : List Value} {Q : V → Led → Prop} {X : Addr → Led → Prop}
    (F : FnAt g.K f fd body ps) (hclo : fd.closure = []) (hcell : ∀ x ∈ fd.scope.names, x.2 ≠ .cell) (hl : ys.length = ps.length)
    (hps : ∀ x ∈ ps ++ more, (x, NameKind.local) ∈ fd.scope.names) (hnd : (ps ++ more).Nodup) (C : Caller g s led frs) (hA : A.frames = some frs) (room : Room (n + 1) A) (hvs : AtAll ys vs)
    (h : ∀ c : Fx, c.g = g → c.n = n → c.own = true → c.env.scope = fd.scope →
      WSs c (Ex c X) body ⟨ps.zip ys ++ more.map fun x => (x, .unset), [], [], led⟩ (retQ Q)) :
    wpS (model g.prog g.w) A (call (.ref f) vs) (fun u s' => ∃ env σ' v, Rel (calleeFx g s led frs A n env) σ' s' ∧ v.At u ∧ Q v σ'.led)
      (fun x s' => ∃ (env : Env) (σ' : St) (C e : Addr) (t : Option (Addr × Value)), x = .ref e ∧ Rel (calleeFx g s led frs A n env) { σ' with led := (e, .exc C t) :: σ'.led } s' ∧ X C σ'.led) s := by
  have X₀ := C.gok.K.keeps C.base
  have hlim := C.gok.lim.keeps C.base
  obtain ⟨o, hlo, hdo⟩ := F.obj
  have len : vs.length = ps.length := by rw [atAll_length hvs, hl]
  have loc : ∀ x ∈ ps ++ more, fd.scope.names.lookup x = some .local := fun x hx => lookup_mem F.nd (hps x hx)
  have hz : (ps.zip ys ++ more.map fun x => (x, V.unset)).map Prod.fst = ps ++ more := by
    rw [List.map_append, List.map_fst_zip (by rw [hl]; exact Nat.le_refl _), List.map_map]
    exact congrArg (ps ++ ·) (map_unset more)
  refine wpS_call (codeS_call_def (binds := ps.zip vs) (by have := room.1; (walk_at "o")) (X₀ _ _ hlo) hdo hlim (F.codeRec X₀) F.body (F.bind vs len) hcell
    (fun x hx => loc _ (List.mem_append_left _ (List.of_mem_zip hx).1)) F.co F.gen F.kind fun h₀ hns hk => ?_)
  have ok := C.ok (n := n) (env := callEnv fd s.heap.objs.size f) hA room F.kind F.glob F.bi rfl rfl
  have R' : Rel (calleeFx g s led frs A n (callEnv fd s.heap.objs.size f)) ⟨ps.zip ys ++ more.map fun x => (x, .unset), [], [], led⟩ { s with heap := h₀, toks := s.toks + (ps.zip vs).length } := by
    refine ⟨ok, ⟨_, hns, fun p hp => ?_⟩, fun p hp => ?_, ?_, (fun p hp => nomatch hp), (fun p hp => nomatch hp), (fun p hp => at_of (C.at_ p hp) fun b _ ob e => hk b ob e), ?_, (fun a ha => .inl ha), (fun b o e _ => ⟨o, hk b o e, rfl, fun _ => rfl⟩), ⟨rfl, rfl, rfl⟩⟩
    · rcases List.mem_append.mp hp with hp | hp
      · exact zip_unset hvs hl (List.nodup_append.mp hnd).1 p hp
      · obtain ⟨x, _, rfl⟩ := List.mem_map.mp hp
        trivial
    · have hm : p.1 ∈ ps ++ more := hz ▸ List.mem_map_of_mem (f := Prod.fst) hp
      exact ⟨loc _ hm, F.dbg _ (hps _ hm)⟩
    · show (List.map Prod.fst (ps.zip ys ++ _)).Nodup
      rw [hz]; exact hnd
    · rw [List.nodup_cons]
      refine ⟨fun hb => ?_, C.nd⟩
      have := someLed_of _ C.at_ _ hb
      rw [show s.heap.get? _ = none from ok.L] at this
      cases this
  exact bodyE (R' := fun r s' => match r with
    | .ok (.ret u) => ∃ env σ' v, Rel (calleeFx g s led frs A n env) σ' s' ∧ v.At u ∧ Q v σ'.led
    | .ok _ => False
    | .error x => ∃ (env : Env) (σ' : St) (C e : Addr) (t : Option (Addr × Value)), x = .ref e ∧ Rel (calleeFx g s led frs A n env) { σ' with led := (e, .exc C t) :: σ'.led } s' ∧ X C σ'.led) hA R' (h _ rfl rfl rfl rfl)
    (fun u s' σ' v R hv q => ⟨_, σ', v, R, hv, q⟩) fun e s' C t σ' R q => ⟨_, σ', C, e, t, rfl, R, q⟩
theorem fnS_of {g : Gx} {n : Nat} {f : Addr} {fd : FuncData} {body : List Stmt} {ps more : List Str} {ys : List V} {led : Led} {Q : V → Led → Prop} {X : Addr → Led → Prop}
    (F : FnAt g.K f fd body ps) (hclo : fd.closure = []) (hcell : ∀ x ∈ fd.scope.names, x.2 ≠ .cell) (hl : ys.length = ps.length)
    (hps : ∀ x ∈ ps ++ more, (x, NameKind.local) ∈ fd.scope.names) (hnd : (ps ++ more).Nodup)
    (h : ∀ c : Fx, c.g = g → c.n = n → c.own = true → c.env.scope = fd.scope →
      WSs c (Ex c X) body ⟨ps.zip ys ++ more.map fun x => (x, .unset), [], [], led⟩ (retQ Q)) :
    FnS g (n + 1) f ys led Q X := by
  intro c σ s A vs hg R hled hA room hvs
  subst hg
  subst hled
  refine wpS_mono (callE F hclo hcell hl hps hnd R.caller hA room hvs h) (fun u s' zq => by obtain ⟨env, σ', v, R', hv, q⟩ := zq; exact ⟨v, _, R.back rfl rfl rfl rfl R', hv, q⟩) fun x s' ⟨env, σ', C, e, t, hx, R', q⟩ => ⟨C, _, ⟨e, t, hx, ?_⟩, trivial, q⟩
  exact R.back rfl rfl rfl rfl R'
theorem FnS.call {c : Fx} {σ : St} {E : Value → Shared → Prop} {n : Nat} {f : Addr} {ys : List V} {led : Led} {Q : V → Led → Prop} {X : Addr → Led → Prop} {Q' : V → St → Prop}
    (h : FnS c.g n f ys σ.led Q X) (hn : n ≤ c.n) (hX : ∀ x s, Rz c σ X x s → E x s) (q : ∀ v led', Q v led' → Q' v { σ with led := led' }) : CallO c E (.ref f) ys σ Q' := fun vs hvs s R =>
  wpS_mono (h c σ s c.A vs rfl R rfl R.ok.A (R.ok.room.le hn) hvs) (fun u s' zq => by obtain ⟨v, led', R', hv, hq⟩ := zq; exact ⟨v, _, R', hv, q v led' hq⟩) hX
theorem FnS.call0 {c : Fx} {σ : St} {E : Value → Shared → Prop} {n : Nat} {f : Addr} {ys : List V} {Q : V → Led → Prop} {Q' : V → St → Prop}
    (h : FnS c.g n f ys σ.led Q NoX) (hn : n ≤ c.n) (q : ∀ v led', Q v led' → Q' v { σ with led := led' }) : CallO c E (.ref f) ys σ Q' :=
  h.call hn (led := σ.led) (fun _ _ zq => by obtain ⟨_, _, _, _, x⟩ := zq; exact x.elim) q
theorem esAt_length : ∀ {fs : List (Str × V)} {es : List DictEntry}, EsAt fs es → es.length = fs.length
  | [], [], _ => rfl
  | _ :: fs, _ :: es, h => by simp [esAt_length h.2.2]
  | [], _ :: _, h => h.elim
  | _ :: _, [], h => h.elim
theorem esAt_noRef : ∀ {fs : List (Str × V)} {es : List DictEntry}, EsAt fs es → es.any (·.refKey) = false
  | [], [], _ => rfl
  | _ :: fs, e :: es, h => by
    obtain ⟨⟨t, ek⟩, _, h⟩ := h
    rw [List.any_cons, esAt_noRef h]
    simp [DictEntry.refKey, ek]
  | [], _ :: _, h => h.elim
  | _ :: _, [], h => h.elim
theorem isStr_str (y : Str) (t : Tok) (x : Str) : (Value.str y t).isStr x = (y == x) := rfl
theorem esAt_get : ∀ {fs : List (Str × V)} {es : List DictEntry}, EsAt fs es → (fs.map Prod.fst).Nodup → ∀ {x : Str} {v : V}, (x, v) ∈ fs → ∃ u, getL x es = some (some u) ∧ v.At u
  | p :: fs, e :: es, h, nd, x, v, hx => by
    obtain ⟨⟨t, ek⟩, hv, h⟩ := h
    rw [List.map_cons, List.nodup_cons] at nd
    rcases List.mem_cons.mp hx with rfl | hx
    · refine ⟨e.val, ?_, hv⟩
      unfold getL
      rw [List.find?_cons]
      simp [ek, isStr_str]
    · have ne : (p.1 == x) = false := beq_eq_false_iff_ne.mpr fun q => nd.1 (List.mem_map.mpr ⟨_, hx, q.symm⟩)
      obtain ⟨u, hu, hv⟩ := esAt_get h nd.2 hx
      refine ⟨u, ?_, hv⟩
      unfold getL at hu ⊢
      rw [List.find?_cons, ek, isStr_str, ne]
      simpa [DictEntry.refKey, ek] using hu
  | [], _, _, _, _, _, hx => nomatch hx
  | _ :: _, [], h, _, _, _, _ => h.elim
theorem esAt_none : ∀ {fs : List (Str × V)} {es : List DictEntry}, EsAt fs es → ∀ {x : Str}, x ∉ fs.map Prod.fst → getL x es = some none
  | [], [], _, _, _ => rfl
  | p :: fs, e :: es, h, x, hx => by
    obtain ⟨⟨t, ek⟩, hv, h⟩ := h
    have ne : (p.1 == x) = false := beq_eq_false_iff_ne.mpr fun q => hx (q ▸ .head _)
    have := esAt_none h (x := x) fun q => hx (.tail _ q)
    unfold getL at this ⊢
    rw [List.find?_cons, ek, isStr_str, ne]
    simpa [DictEntry.refKey, ek] using this
  | [], _ :: _, h, _, _ => h.elim
  | _ :: _, [], h, _, _ => h.elim
theorem esAt_put {x : Str} {hsh : Int} {k u : Value} {v : V} (hv : v.At u) {fs fs' : List (Str × V)} (U : SetV x v fs fs') : ∀ {es : List DictEntry}, EsAt fs es → (fs.map Prod.fst).Nodup → EsAt fs' (putL x hsh k u es) := by
  induction U with
  | head w l =>
    intro es h nd
    cases es with
    | nil => exact h.elim
    | cons e es =>
      obtain ⟨⟨t, ek⟩, _, h⟩ := h
      have : e.key.isStr x = true := by rw [ek, isStr_str]; simp
      rw [putL, if_pos this]
      exact ⟨⟨t, ek⟩, hv, h⟩
  | tail p U ih =>
    intro es h nd
    cases es with
    | nil => exact h.elim
    | cons e es =>
      obtain ⟨⟨t, ek⟩, hw, h⟩ := h
      rw [List.map_cons, List.nodup_cons] at nd
      have : ¬ e.key.isStr x = true := by
        rw [ek, isStr_str]
        intro q
        exact nd.1 (beq_iff_eq.mp q ▸ U.hasKey)
      rw [putL, if_neg this]
      exact ⟨⟨t, ek⟩, hw, ih h nd.2⟩
theorem esAt_new {x : Str} {hsh : Int} {t : Tok} {u : Value} {v : V} (hv : v.At u) : ∀ {fs : List (Str × V)} {es : List DictEntry}, EsAt fs es → x ∉ fs.map Prod.fst → EsAt (fs ++ [(x, v)]) (putL x hsh (.str x t) u es)
  | [], [], _, _ => ⟨⟨t, rfl⟩, hv, trivial⟩
  | p :: fs, e :: es, h, hx => by
    obtain ⟨⟨t, ek⟩, hw, h⟩ := h
    have : ¬ e.key.isStr x = true := by
      rw [ek, isStr_str]
      intro q
      exact hx (beq_iff_eq.mp q ▸ .head _)
    rw [putL, if_neg this]
    exact ⟨⟨t, ek⟩, hw, esAt_new hv h fun q => hx (.tail _ q)⟩
  | [], _ :: _, h, _ => h.elim
  | _ :: _, [], h, _ => h.elim
structure ClsOk (K : Frag) (C : Addr) : Prop where
  ga : findIn K (.ref C) "__getattribute__" = some (some (.builtin "object.__getattribute__"))
  gg : findIn K (.ref C) "__getattr__" = some none
  sa : findIn K (.ref C) "__setattr__" = some (some (.builtin "object.__setattr__"))
  dict : hasDictIn K C = true
  plain : plainOver K C = true
noncomputable def FldOk (K : Frag) (C : Addr) (x : Str) : Prop := findIn K (.ref C) x = some none
noncomputable def MethOk (K : Frag) (C : Addr) (x : Str) (f : Addr) : Prop := findIn K (.ref C) x = some (some (.ref f)) ∧ typeIn K (.ref f) = some (.type "function")
noncomputable def AO (c : Fx) (E : Value → Shared → Prop) (x : V) (name : Str) (σ : St) (Q : V → St → Prop) : Prop := ∀ u, x.At u → TW c E (getAttr u name true) σ Q
noncomputable def PO (c : Fx) (E : Value → Shared → Prop) (x : V) (name : Str) (v : V) (σ : St) (Q : St → Prop) : Prop := ∀ u w, x.At u → v.At w → UW c E (setAttr u name w) σ Q
section
variable {c : Fx} {E : Value → Shared → Prop} {σ : St}
theorem inst_at {s : Shared} (R : Rel c σ s) {a C dx : Addr} {fs : List (Str × V)} (ha : (a, Ob.inst C dx fs) ∈ σ.led) : ∃ es n, InstAt s.heap a (instObj C dx) C (some (dictOf es n)) ∧ s.heap.get? dx = some (dictOf es n) ∧ EsAt fs es := by
  obtain ⟨h1, es, n, h2, h3⟩ := R.led _ ha
  exact ⟨es, n, ⟨h1, rfl, rfl, h2⟩, h2, h3⟩
noncomputable abbrev KAttr (c : Fx) (E : Value → Shared → Prop) (name : Str) (Q : V → St → Prop) : V → St → Prop := fun x σ₁ => AO c E x name σ₁ Q
theorem e_attr {o : Expr} {name : Str} {pos : Pos} {Q : V → St → Prop} (h : WE c E o σ (KAttr c E name Q)) (hb : attributeBase o name c.env (eval o c.env) = eval o c.env) : WE c E (.Attribute o name pos) σ Q := fun s R => by
  rw [arm_eval_Attribute, hb]
  refine wpS_bind (wpS_mono (h s R) (fun u s₁ zq => ?_) fun _ _ z => z)
  obtain ⟨x, σ₁, R₁, hx, h₁⟩ := zq
  refine wpS_bind (wpS_standAt (wpS_bind (wpS_holding (wpS_mono (h₁ u hx s₁ R₁) (fun r s₂ h₂ => ?_) fun _ _ z => z))))
  exact wpS_bindL (wpAny_letTemporaryGo (wpS_pure h₂))
theorem a_inst {a C dx : Addr} {fs : List (Str × V)} {name : Str} {v : V} {Q : V → St → Prop} (ha : (a, Ob.inst C dx fs) ∈ σ.led) (hc : ClsOk c.g.K C) (hf : FldOk c.g.K C name) (nd : (fs.map Prod.fst).Nodup) (hx : (name, v) ∈ fs)
    (hv : ∀ u, v.At u → handedIn u = true) (q : Q v σ) : AO c E (.cst (.ref a)) name σ Q := fun u hu s R => by
  rw [show u = .ref a from hu]
  obtain ⟨es, n, I, hd, hes⟩ := inst_at R ha
  obtain ⟨w, hw, hv'⟩ := esAt_get hes nd hx
  exact wpS_of (get_value R.K I hc.ga (findObj_own hc.dict hf rfl (by rw [lookIn_dict]; exact hw)) (hv _ hv') ⟨v, σ, R.toks, hv', q⟩)
theorem handed_int {i : Int} : ∀ u, (V.int i).At u → handedIn u = true := fun u ⟨_, h⟩ => h ▸ rfl
theorem handed_bytes {b : List UInt8} : ∀ u, (V.bytes b).At u → handedIn u = true := fun u ⟨_, h⟩ => h ▸ rfl
theorem handed_ref {a : Addr} : ∀ u, (V.cst (.ref a)).At u → handedIn u = true := fun u h => by rw [show u = .ref a from h]; rfl
theorem handed_bool {b : Bool} : ∀ u, (V.bool b).At u → handedIn u = true := fun u h => by rw [show u = .bool b from h]; rfl
theorem p_core {a C dx : Addr} {fs fs' : List (Str × V)} {name : Str} {v : V} {led' : Led} {Q : St → Prop} (hc : ClsOk c.g.K C) (hf : FldOk c.g.K C name) (hlen : fs.length ≤ 900)
    (U : Upd a (.inst C dx fs) (.inst C dx fs') σ.led led') (hp : ∀ es u hsh t, EsAt fs es → v.At u → EsAt fs' (putL name hsh (.str name t) u es)) (q : Q { σ with led := led' }) : PO c E (.cst (.ref a)) name v σ Q := fun u w hu hv s R => by
  rw [show u = .ref a from hu]
  obtain ⟨es, n, I, hd, hes⟩ := inst_at R U.mem
  have X := R.K
  refine wpS_of (set_plain X I hc.sa ?_)
  refine osa_open (s := { s with toks := s.toks + 1 }) X I hc.plain (r := none) (by unfold takerIn; rw [show findIn _ _ _ = _ from hf]; rfl) fun b => ?_
  obtain ⟨cd, hcd, hdict⟩ := any_some hc.dict
  refine wpAny_bind (wpAny_pure (wpAny_bind (wpAny_bind (wpAny_loadPart I.at_ (wpAny_bind ((looks_clsIn X hcd) _ _ _ _ (fun _ _ e => e) ?_))))))
  rw [hdict]
  refine wpAny_pure (a := some dx) (wpAny_bind (wpAny_pure (wpAny_bind ?_)))
  unfold nsSet
  refine wpAny_bind (wpAny_bind (wpAny_askSetting (wpAny_pure (wpAny_bind (wpAny_mkText (wpAny_bind (wpAny_loadPart hd ?_)))))))
  dsimp only
  have c0 : (!es.toArray.any (·.key.isStr name) && es.toArray.any (·.refKey)) = false := by
    rw [show es.toArray.any (·.refKey) = false from by rw [← Array.any_toList]; exact esAt_noRef hes, Bool.and_false]
  rw [aRefKeyMayBeTheName_at, c0]
  refine wpAny_updatePart hd ?_
  have ed : Obj.putName name (PyData.keyHash c.g.w.params name) (.str name (s.toks + 1)) w (dictOf es n) = dictOf (putL name (PyData.keyHash c.g.w.params name) (.str name (s.toks + 1)) w es) (putN name es n) := putName_dict ..
  have hd' : (s.heap.update dx (Obj.putName name (PyData.keyHash c.g.w.params name) (.str name (s.toks + 1)) w)).get? dx = some (dictOf (putL name (PyData.keyHash c.g.w.params name) (.str name (s.toks + 1)) w es) (putN name es n)) := by
    rw [Heap.get?_update_self _ hd (by rw [ed]; rfl), ed]
  have hes' := hp es w (PyData.keyHash c.g.w.params name) (s.toks + 1) hes hv
  have hz : (putL name (PyData.keyHash c.g.w.params name) (.str name (s.toks + 1)) w es).length ≤ 1000 := by
    have l1 := esAt_length hes
    have : ∀ (l : List DictEntry) (h : Int) (k u : Value), (putL name h k u l).length ≤ l.length + 1 := by
      intro l h k u
      induction l with
      | nil => simp [putL]
      | cons e l ih => rw [putL]; split <;> simp; (walk_at "o")
    have := this es (PyData.keyHash c.g.w.params name) (.str name (s.toks + 1)) w
    (walk_at "o")
  refine wpAny_bind (wpAny_lookBehind hd' (pastItsLine_dict (by rw [List.size_toArray, sizeLine_eq]; (walk_at "o"))) ?_)
  refine wpAny_pure ?_
  refine ⟨_, R.upd (h' := s.heap.update dx (Obj.putName name (PyData.keyHash c.g.w.params name) (.str name (s.toks + 1)) w)) U rfl (b := dx) (.tail _ (.head _)) (fun d ob hne e => ?_) ?_, q⟩
  · rw [Heap.get?_update_other _ _ (Ne.symm hne)]; exact e
  · have hne : dx ≠ a := by
      intro e; rw [e] at hd; rw [I.at_] at hd; cases hd
    refine ⟨?_, _, _, hd', hes'⟩
    rw [Heap.get?_update_other _ _ hne]; exact I.at_
theorem p_set {a C dx : Addr} {fs fs' : List (Str × V)} {name : Str} {v : V} {led' : Led} {Q : St → Prop} (hc : ClsOk c.g.K C) (hf : FldOk c.g.K C name)
    (U : Upd a (.inst C dx fs) (.inst C dx fs') σ.led led') (hlen : fs.length ≤ 900) (nd : (fs.map Prod.fst).Nodup) (S : SetV name v fs fs') (q : Q { σ with led := led' }) : PO c E (.cst (.ref a)) name v σ Q :=
  p_core hc hf hlen U (fun es u hsh t h hv => esAt_put hv S h nd) q
theorem p_new {a C dx : Addr} {fs : List (Str × V)} {name : Str} {v : V} {led' : Led} {Q : St → Prop} (hc : ClsOk c.g.K C) (hf : FldOk c.g.K C name)
    (U : Upd a (.inst C dx fs) (.inst C dx (fs ++ [(name, v)])) σ.led led') (hlen : fs.length ≤ 900) (hx : name ∉ fs.map Prod.fst) (q : Q { σ with led := led' }) : PO c E (.cst (.ref a)) name v σ Q :=
  p_core hc hf hlen U (fun es u hsh t h hv => esAt_new hv h hx) q
noncomputable abbrev KSetA2 (c : Fx) (E : Value → Shared → Prop) (name : Str) (v : V) (Q : Fl → St → Prop) : V → St → Prop := fun x σ₂ => PO c E x name v σ₂ (Q .next)
noncomputable abbrev KSetA (c : Fx) (E : Value → Shared → Prop) (o : Expr) (name : Str) (Q : Fl → St → Prop) : V → St → Prop := fun v σ₁ => WE c E o σ₁ (KSetA2 c E name v Q)
theorem s_setattr {o : Expr} {name : Str} {p pos : Pos} {value : Expr} {Q : Fl → St → Prop}
    (h : WE c E value σ (KSetA c E o name Q))
    (hs : swapsWith value (some (.Attribute o name p)) pos.line c.env = pure false) : WS c E (.Assign [.Attribute o name p] value pos) σ Q := fun s R => by
  rw [plainObj_exec_Assign_Attribute o name p value pos hs]
  refine wpS_bind (wpS_standAt (wpS_bind (wpS_mono (h s R) (fun w s₁ zq => ?_) fun _ _ z => z)))
  obtain ⟨v, σ₁, R₁, hv, h₁⟩ := zq
  rw [assign_Attribute]
  refine wpS_bind (wpS_bind (wpS_holding (wpS_mono (h₁ s₁ R₁) (fun u s₂ zq => ?_) fun _ _ z => z)))
  obtain ⟨x, σ₂, R₂, hx, h₂⟩ := zq
  refine wpS_bind (wpS_standAt (wpS_bind (wpS_holding (wpS_mono (h₂ u w hx hv s₂ R₂) (fun _ s₃ zq => ?_) fun _ _ z => z))))
  obtain ⟨σ₃, R₃, q⟩ := zq
  refine wpS_of (wpAny_release ?_)
  exact wpS_pure ⟨.next, σ₃, R₃, rfl, q⟩
noncomputable abbrev KAug (c : Fx) (E : Value → Shared → Prop) (op : Operator) (old : V) (x : Str) (Q : Fl → St → Prop) : V → St → Prop := fun v σ₁ => IO' c E op old v σ₁ (KAsg x Q)
theorem s_aug {x : Str} {p pos : Pos} {op : Operator} {value : Expr} {old : V} {Q : Fl → St → Prop} (hx : (x, old) ∈ σ.loc) (hs : old.isSet = true)
    (h : WE c E value σ (KAug c E op old x Q)) : WS c E (.AugAssign (.Name x p) op value pos) σ Q := fun s R => by
  rw [exec_AugAssign_Name]
  refine wpS_bind (wpS_standAt (wpS_bindL (loadLoc R hx hs fun u hu => ?_)))
  refine wpS_bind (wpS_holding (wpS_mono (h s R) (fun w s₁ zq => ?_) fun _ _ z => z))
  obtain ⟨v, σ₁, R₁, hv, h₁⟩ := zq
  refine wpS_bind (wpS_standAt (wpS_bind (wpS_operate (wpS_mono (h₁ u w hu hv s₁ R₁) (fun r s₂ zq => ?_) fun _ _ z => z))))
  obtain ⟨y, σ₂, R₂, hy, loc', U, q⟩ := zq
  exact wpS_bind (wpS_standAt (wpS_bindL (wpAny_bindName (storeLoc R₂ hy U fun s'' R'' => wpS_pure ⟨.next, _, R'', rfl, q⟩))))
noncomputable abbrev KPO (c : Fx) (E : Value → Shared → Prop) (x : V) (name : Str) (Q : Fl → St → Prop) : V → St → Prop := fun r σ₄ => PO c E x name r σ₄ (Q .next)
noncomputable abbrev KAugA2 (c : Fx) (E : Value → Shared → Prop) (op : Operator) (x : V) (name : Str) (old : V) (Q : Fl → St → Prop) : V → St → Prop := fun v σ₃ => IO' c E op old v σ₃ (KPO c E x name Q)
noncomputable abbrev KAugA1 (c : Fx) (E : Value → Shared → Prop) (op : Operator) (x : V) (name : Str) (value : Expr) (Q : Fl → St → Prop) : V → St → Prop := fun old σ₂ => WE c E value σ₂ (KAugA2 c E op x name old Q)
noncomputable abbrev KAugA (c : Fx) (E : Value → Shared → Prop) (op : Operator) (name : Str) (value : Expr) (Q : Fl → St → Prop) : V → St → Prop := fun x σ₁ => AO c E x name σ₁ (KAugA1 c E op x name value Q)
theorem s_augattr {o : Expr} {name : Str} {p pos : Pos} {op : Operator} {value : Expr} {Q : Fl → St → Prop}
    (h : WE c E o σ (KAugA c E op name value Q)) : WS c E (.AugAssign (.Attribute o name p) op value pos) σ Q := fun s R => by
  rw [arm_exec_AugAssign_2]
  refine wpS_bind (wpS_standAt (wpS_bind (wpS_mono (h s R) (fun u s₁ zq => ?_) fun _ _ z => z)))
  obtain ⟨x, σ₁, R₁, hx, h₁⟩ := zq
  refine wpS_bind (wpS_holding (wpS_bind (wpS_standAt (wpS_bind (wpS_mono (h₁ u hx s₁ R₁) (fun ov s₂ zq => ?_) fun _ _ z => z)))))
  obtain ⟨old, σ₂, R₂, ho, h₂⟩ := zq
  refine wpS_bind (wpS_holding (wpS_mono (h₂ s₂ R₂) (fun w s₃ zq => ?_) fun _ _ z => z))
  obtain ⟨v, σ₃, R₃, hv, h₃⟩ := zq
  refine wpS_bind (wpS_standAt (wpS_operate (wpS_mono (h₃ ov w ho hv s₃ R₃) (fun r s₄ zq => ?_) fun _ _ z => z)))
  obtain ⟨y, σ₄, R₄, hy, h₄⟩ := zq
  refine wpS_bind (wpS_standAt (wpS_bind (wpS_holding (wpS_mono (h₄ u r hx hy s₄ R₄) (fun _ s₅ zq => ?_) fun _ _ z => z))))
  obtain ⟨σ₅, R₅, q⟩ := zq
  refine wpS_bind (wpS_of (wpAny_release ?_))
  exact wpS_pure ⟨.next, σ₅, R₅, rfl, q⟩
theorem mo_inst {a C dx f : Addr} {fs : List (Str × V)} {name : Str} {Q : Value → List V → Prop} (ha : (a, Ob.inst C dx fs) ∈ σ.led) (hc : ClsOk c.g.K C) (hm : MethOk c.g.K C name f) (hn : name ∉ fs.map Prod.fst)
    (q : Q (.ref f) [.cst (.ref a)]) : MO c E (.cst (.ref a)) name σ Q := fun u hu s R pl P h => by
  rw [show u = .ref a from hu]
  obtain ⟨es, n, I, hd, hes⟩ := inst_at R ha
  refine method_fn R.K I hc.ga hc.gg hm.1 hm.2 ?_ (h _ _ [.cst (.ref a)] ⟨rfl, trivial⟩ q)
  show (lookIn name (dictOf es n)).map (·.isSome) = some false
  rw [lookIn_dict, esAt_none hes hn]; rfl
noncomputable def Gx.Has (g : Gx) (x : Str) (v : V) : Prop := (∃ u, g.mg x = some u ∧ v.At u) ∨ (g.mg x = none ∧ ∃ u, g.mb x = some u ∧ v.At u)
theorem e_gl {x : Str} {pos : Pos} {v : V} {fd : FuncData} {f : Addr} {body : List Stmt} {ps : List Str} {Q : V → St → Prop} (F : FnAt c.g.K f fd body ps) (he : c.env.scope = fd.scope) (hx : (x, NameKind.globalImplicit) ∈ fd.scope.names)
    (hv : c.g.Has x v) (h : Q v σ) : WE c E (.Name x pos) σ Q := fun s R => by
  have hk : c.env.kindOf x = some .globalImplicit := by show c.env.scope.names.lookup x = _; rw [he]; exact lookup_mem F.nd hx
  refine wpS_of (Name_function_global R.ok.fn hk ?_ (F.dbg _ hx))
  have g1 : s.heap.Ns c.env.globals c.g.mg := R.ok.glob ▸ R.ok.g.mg.keeps R.base
  have g2 : s.heap.Ns c.env.builtins c.g.mb := R.ok.bi ▸ R.ok.g.mb.keeps R.base
  rcases hv with ⟨u, hu, hv⟩ | ⟨hn, u, hu, hv⟩
  · exact loadGlobal_global g1 hu ⟨v, σ, R, hv, h⟩
  · exact loadGlobal_builtin g1 hn g2 hu ⟨v, σ, R, hv, h⟩
theorem s_while {test : Expr} {body orelse : List Stmt} {pos : Pos} {Q : Fl → St → Prop} (I : Nat → St → Prop)
    (turn : ∀ n σ', I n σ' → BW c (fun _ _ => False) test σ' (fun b σ₂ => (b = true → WSs c (fun _ _ => False) body σ₂ (fun fl σ₃ => match fl with
      | .next | .cont => ∃ m, m < n ∧ I m σ₃
      | .brk => Q .next σ₃
      | .ret v => Q (.ret v) σ₃)) ∧ (b = false → WSs c (fun _ _ => False) orelse σ₂ Q)))
    (n : Nat) (h0 : I n σ) : WS c E (.While test body orelse pos) σ Q := fun s R => by
  rw [exec_While]
  refine wpS_bind (wpS_standAt ?_)
  unfold runOwn
  refine wpS_onRaise (wpS_run ?_)
  rw [show c.A.mark none = c.A from rfl]
  refine codeS_loop rfl rfl (fun n s' => ∃ σ', Rel c σ' s' ∧ I n σ') (fun n s' zq => ?_) n ⟨σ, R, h0⟩
  obtain ⟨σ', R', hI⟩ := zq
  show wpS _ c.A ((whileTurn test body orelse c.env).onRaise (fun x => do noteFrame x c.env; theTreesLotGoes x)) _ _ s'
  refine wpS_onRaise (wpS_mono (Q := fun fin s' => match fin with
    | .done f => ∃ fl σ', Rel c σ' s' ∧ fl.At f ∧ Q fl σ'
    | .again c' => c' = .whileLoop test body orelse c.env ∧ ∃ m, m < n ∧ ∃ σ', Rel c σ' s' ∧ I m σ') (E := fun _ _ => False) ?_ (fun fin s' x => by cases fin <;> exact x) fun _ _ x => x.elim)
  simp only [whileTurn]
  refine wpS_bind (wpS_mono (turn n σ' hI s' R') (fun b s₂ zq => ?_) fun _ _ x => x)
  obtain ⟨σ₂, R₂, h₂⟩ := zq
  cases b with
  | false =>
    simp only [Bool.false_eq_true, if_false]
    exact wpS_bind (wpS_mono (h₂.2 rfl s₂ R₂) (fun f s₃ h₃ => wpS_pure h₃) fun _ _ x => x)
  | true =>
    simp only [if_true]
    refine wpS_bind (wpS_mono (h₂.1 rfl s₂ R₂) (fun f s₃ zq => ?_) fun _ _ x => x)
    obtain ⟨fl, σ₃, R₃, hf, h₃⟩ := zq
    cases fl with
    | next => cases hf; obtain ⟨m, hm, hI'⟩ := h₃; exact wpS_pure ⟨rfl, m, hm, σ₃, R₃, hI'⟩
    | cont => cases hf; obtain ⟨m, hm, hI'⟩ := h₃; exact wpS_pure ⟨rfl, m, hm, σ₃, R₃, hI'⟩
    | brk => cases hf; exact wpS_pure ⟨.next, σ₃, R₃, rfl, h₃⟩
    | ret v => obtain ⟨u, rfl, hu⟩ := hf; exact wpS_pure ⟨.ret v, σ₃, R₃, ⟨u, rfl, hu⟩, h₃⟩
end
section
variable {c : Fx} {E : Value → Shared → Prop} {σ : St}
theorem Rel.drop {s : Shared} {it : Addr} {ob : Ob} {l : Led} (R : Rel c σ s) (hl : σ.led = (it, ob) :: l) {h' : Heap} {t : Tok}
    (k : ∀ d o, d ≠ it → s.heap.get? d = some o → h'.get? d = some o) : Rel c { σ with led := l } { s with heap := h', toks := t } := by
  have R' := R.sub (led' := l) (by rw [hl]; exact .skip (.refl l))
  have nd := R.nd
  rw [hl] at nd
  have itm : it ∈ addrs σ.led := by rw [hl]; exact .head _
  have nl : ∀ d ∈ c.env.locals :: addrs l, d ≠ it := by
    intro d hd e
    subst e
    rw [List.nodup_cons] at nd
    rcases List.mem_cons.mp hd with e | hd
    · exact nd.1 (e ▸ .head _)
    · have := nd.2
      rw [show addrs ((d, ob) :: l) = d :: (ob.more ++ addrs l) from rfl, List.nodup_cons] at this
      exact this.1 (List.mem_append_right _ hd)
  refine { R' with loc := ?_, led := fun p hp => at_of (R'.led p hp) fun b hb o e => k b o (nl b (.tail _ (mem_addrs hp b hb))) e, keep := fun b o e hb => (R'.keep b o e hb).to fun o' e' => k b o' (fun q => ?_) e' }
  · obtain ⟨m, ⟨o, es, ep, e, r⟩, x⟩ := R'.loc
    exact ⟨m, ⟨o, es, ep, k _ _ (nl _ (.head _)) e, r⟩, x⟩
  · subst q
    rcases R.own b itm with w | w
    · exact hb w
    · rw [w] at e; cases e
noncomputable def Itr (c : Fx) (it : Addr) (ob : Nat → Ob) (n : Nat) (item : Nat → V) (P : Led → Prop) : Prop :=
  (∀ k, k < n → ∀ (σ : St) l s, σ.led = (it, ob k) :: l → P l → Rel c σ s → ∀ (E : Value → Shared → Prop), wpAny (model c.g.prog c.g.w) c.A (pyNext (.ref it)) (fun r s' => ∃ u, r = some u ∧ (item k).At u ∧ Rel c { σ with led := (it, ob (k + 1)) :: l } s') E s) ∧
  (∀ (σ : St) l s, σ.led = (it, ob n) :: l → P l → Rel c σ s → ∀ (E : Value → Shared → Prop), wpAny (model c.g.prog c.g.w) c.A (pyNext (.ref it)) (fun r s' => r = none ∧ Rel c { σ with led := l } s') E s)
theorem itr_range {it : Addr} {a : Int} {n : Nat} (hh : c.A.handled = none) : Itr c it (fun k => .rit (a + k) ((n : Int) - k)) n (fun k => .int (a + k)) (fun _ => True) := by
  refine ⟨fun k hk σ l s hl _ R E => ?_, fun σ l s hl _ R E => ?_⟩
  · have hl : σ.led = (it, Ob.rit (a + k) ((n : Int) - k)) :: l := hl
    have hit : IsRangeIter s.heap it (a + k) ((n : Int) - k) 1 := R.led (it, Ob.rit (a + k) ((n : Int) - k)) (by rw [hl]; exact .head _)
    refine wpAny_pyNext_range_item hit (by walk_at "o") fun h' hi hs => ⟨_, rfl, ⟨_, rfl⟩, ?_⟩
    have e1 : a + (k : Int) + 1 = a + ((k + 1 : Nat) : Int) := by walk_at "o"
    have e2 : (n : Int) - k - 1 = (n : Int) - ((k + 1 : Nat) : Int) := by walk_at "o"
    rw [e1, e2] at hi
    exact R.upd (o := Ob.rit (a + k) ((n : Int) - k)) (o' := .rit (a + ((k + 1 : Nat) : Int)) ((n : Int) - ((k + 1 : Nat) : Int))) (by rw [hl]; exact .head _) rfl (.head _) (fun d ob hd e => (hs.2 d hd).trans e) hi
  · have hl : σ.led = (it, Ob.rit (a + n) ((n : Int) - n)) :: l := hl
    have hit : IsRangeIter s.heap it (a + n) ((n : Int) - n) 1 := R.led (it, Ob.rit (a + n) ((n : Int) - n)) (by rw [hl]; exact .head _)
    exact wpAny_pyNext_range_end hh hit (by walk_at "o") fun h' hs => ⟨rfl, R.drop (t := s.toks) hl fun d o hd e => hs d o hd e⟩
theorem itr_seq {it l : Addr} {xs : List V} {P : Led → Prop} (hh : c.A.handled = none) (hP : ∀ (σ : St) led s, P led → (∀ p ∈ led, p ∈ σ.led) → Rel c σ s → ∃ us : List Value, s.heap.IsList l us.toArray ∧ AtAll xs us) :
    Itr c it (fun k => .lit l k) xs.length (fun k => xs.getD k .none) P := by
  refine ⟨fun k hk σ led s hl hp R E => ?_, fun σ led s hl hp R E => ?_⟩
  · have hl : σ.led = (it, Ob.lit l k) :: led := hl
    have hit : s.heap.IsListIter it l k := R.led (it, Ob.lit l k) (by rw [hl]; exact .head _)
    obtain ⟨us, hL, hx⟩ := hP σ led s hp (fun p hp => by rw [hl]; exact .tail _ hp) R
    obtain ⟨u, hu, hv⟩ := atAll_get hx (i := k) (x := xs.getD k .none) (by rw [List.getD_eq_getElem?_getD, List.getElem?_eq_getElem hk]; rfl)
    refine wpAny_pyNext_list_item hit hL (x := u) (by simpa using hu) fun h' hi hs => ⟨_, rfl, hv, ?_⟩
    exact R.upd (t := s.toks) (o := Ob.lit l k) (o' := .lit l (k + 1)) (by rw [hl]; exact .head _) rfl (.head _) (fun d ob hd e => (hs.2 d hd).trans e) hi
  · have hl : σ.led = (it, Ob.lit l xs.length) :: led := hl
    have hit : s.heap.IsListIter it l xs.length := R.led (it, Ob.lit l xs.length) (by rw [hl]; exact .head _)
    obtain ⟨us, hL, hx⟩ := hP σ led s hp (fun p hp => by rw [hl]; exact .tail _ hp) R
    exact wpAny_pyNext_list_end hh hit hL (by rw [List.getElem?_toArray, List.getElem?_eq_none (by rw [atAll_length hx]; exact Nat.le_refl _)]) fun h' hs => ⟨rfl, R.drop (t := s.toks) hl fun d o hd e => hs d o hd e⟩
theorem itr_list {it l : Addr} {xs : List V} (hh : c.A.handled = none) : Itr c it (fun k => .lit l k) xs.length (fun k => xs.getD k .none) (fun led => (l, Ob.list xs) ∈ led) :=
  itr_seq hh fun σ led s hp hs R => let ⟨us, n, e, h⟩ := R.led _ (hs _ hp); ⟨us, isList_of e, h⟩
theorem itr_arg {it l : Addr} {xs : List V} (hh : c.A.handled = none) : Itr c it (fun k => .lit l k) xs.length (fun k => xs.getD k .none) (fun led => (l, Ob.arg xs) ∈ led) :=
  itr_seq hh fun σ led s hp hs R => let ⟨us, e, h⟩ := R.led _ (hs _ hp); ⟨us, e, h⟩
theorem for_core {x : Str} {px : Pos} {body : List Stmt} {it : Addr} {ob : Nat → Ob} {n : Nat} {item : Nat → V} {P : Led → Prop} (T : Itr c it ob n item P) {Q : Fl → St → Prop} (I : Nat → St → Prop) (hP : ∀ k σ', I k σ' → P σ'.led)
    (turn : ∀ k σ', k < n → I k σ' → ∃ loc', SetV x (item k) σ'.loc loc' ∧ WSs c (fun _ _ => False) body ⟨loc', σ'.glo, σ'.cel, (it, ob (k + 1)) :: σ'.led⟩ (fun fl σ'' => match fl with
      | .next | .cont => ∃ led', Sub σ''.led ((it, ob (k + 1)) :: led') ∧ I (k + 1) { σ'' with led := led' }
      | .brk => Q .next σ''
      | .ret v => Q (.ret v) σ''))
    (fin : ∀ σ', I n σ' → Q .next σ') {s : Shared} (h0 : I 0 σ) (R : Rel c { σ with led := (it, ob 0) :: σ.led } s) :
    wpS (model c.g.prog c.g.w) c.A (runOwn (.forLoop (.Name x px) (.ref it) body [] c.env) c.env) (fun f s' => ∃ fl σ', Rel c σ' s' ∧ fl.At f ∧ Q fl σ') E s := by
  unfold runOwn
  refine wpS_onRaise (wpS_run ?_)
  rw [show c.A.mark none = c.A from rfl]
  refine codeS_loop' rfl rfl (fun m s' => ∃ k σ', m + k = n ∧ I k σ' ∧ Rel c { σ' with led := (it, ob k) :: σ'.led } s') (fun m s' zq => ?_) n ⟨0, σ, rfl, h0, R⟩
  obtain ⟨k, σ', hk, hI, R'⟩ := zq
  show wpS _ c.A ((forTurn (.Name x px) (.ref it) body [] c.env).onRaise (fun x => do noteFrame x c.env; theTreesLotGoes x)) _ _ s'
  refine wpS_onRaise (wpS_mono (Q := fun fin s' => match fin with
    | .done f => ∃ fl σ', Rel c σ' s' ∧ fl.At f ∧ Q fl σ'
    | .again c' => (c' = .forLoop (.Name x px) (.ref it) body [] c.env ∧ ∃ m', m' < m ∧ ∃ k σ', m' + k = n ∧ I k σ' ∧ Rel c { σ' with led := (it, ob k) :: σ'.led } s') ∨
        (c' = .block [] c.env ∧ ∃ fl σ', Rel c σ' s' ∧ fl.At .next ∧ Q fl σ')) (E := fun _ _ => False) ?_ (fun fin s' z => ?_) fun _ _ z => z.elim)
  · simp only [forTurn]
    refine wpS_bind (wpS_standAt ?_)
    by_cases hlt : k < n
    · refine wpS_bind (wpS_onRaise (wpS_of (wpAny_mono (T.1 k hlt { σ' with led := (it, ob k) :: σ'.led } σ'.led s' rfl (hP k σ' hI) R' (fun _ _ => False)) (fun r s₁ zq => ?_) fun _ _ z => z.elim)))
      obtain ⟨u, hr, hu, R₁⟩ := zq
      subst hr
      refine wpS_bind (wpS_of_eq (a := ()) rfl ?_)
      obtain ⟨loc', S, hb⟩ := turn k σ' hlt hI
      refine wpS_bind ?_
      show wpS _ _ (standAt px >>= fun _ => bindName c.env x u) _ _ _
      refine wpS_bind (wpS_standAt (wpS_of (wpAny_bindName (storeLoc R₁ hu S fun s₂ R₂ => ?_))))
      refine wpS_bind (wpS_mono (hb s₂ R₂) (fun f s₃ zq => ?_) fun _ _ z => z)
      obtain ⟨fl, σ'', R₃, hf, q⟩ := zq
      have again : (∃ led', Sub σ''.led ((it, ob (k + 1)) :: led') ∧ I (k + 1) { σ'' with led := led' }) → ∃ m', m' < m ∧ ∃ k σ', m' + k = n ∧ I k σ' ∧ Rel c { σ' with led := (it, ob k) :: σ'.led } s₃ :=
        fun ⟨led', hs, hI'⟩ => ⟨m - 1, by walk_at "o", k + 1, _, by walk_at "o", hI', R₃.sub hs⟩
      cases fl with
      | next => cases hf; exact wpS_pure (.inl ⟨rfl, again q⟩)
      | cont => cases hf; exact wpS_pure (.inl ⟨rfl, again q⟩)
      | brk => cases hf; exact wpS_pure ⟨.next, σ'', R₃, rfl, q⟩
      | ret v => obtain ⟨u, rfl, hu⟩ := hf; exact wpS_pure ⟨.ret v, σ'', R₃, ⟨u, rfl, hu⟩, q⟩
    · have hkn : k = n := by walk_at "o"
      subst hkn
      refine wpS_bind (wpS_onRaise (wpS_of (wpAny_mono (T.2 { σ' with led := (it, ob k) :: σ'.led } σ'.led s' rfl (hP k σ' hI) R' (fun _ _ => False)) (fun r s₁ zq => ?_) fun _ _ z => z.elim)))
      obtain ⟨hr, R₁⟩ := zq
      subst hr
      exact wpS_pure (.inr ⟨rfl, .next, σ', R₁, rfl, fin _ hI⟩)
  · cases fin with
    | done f => exact z
    | again c' =>
      rcases z with ⟨e, m', hm, z⟩ | ⟨e, z⟩
      · exact .inl ⟨e, m', hm, z⟩
      · subst e
        exact .inr ⟨rfl, codeS_of (codeAny_block (wpAny_execs_nil z))⟩
theorem call_range {n : Int} {Q : V → St → Prop} (q : ∀ r, Q (.cst (.ref r)) { σ with led := (r, .rng 0 n) :: σ.led }) : CallO c E (.type "range") [.int n] σ Q := fun vs hvs s R => by
  obtain ⟨u, rfl, ⟨t, hu⟩⟩ := at1 hvs
  subst hu
  exact wpS_of (call_range_1 ⟨.cst (.ref _), _, R.push (ob := .rng 0 n) rfl ⟨_, _, _, Heap.get?_push_size _ rfl⟩, rfl, q _⟩)
noncomputable abbrev KRng (n : Nat) (I : Nat → St → Prop) : V → St → Prop := fun v σ₁ => ∃ r l, v = .cst (.ref r) ∧ σ₁.led = (r, .rng 0 n) :: l ∧ I 0 { σ₁ with led := l }
noncomputable abbrev KTurn (it : Addr) (ob : Ob) (k : Nat) (I : Nat → St → Prop) (Q : Fl → St → Prop) : Fl → St → Prop := fun fl σ'' => match fl with
  | .next | .cont => ∃ led', Sub σ''.led ((it, ob) :: led') ∧ I (k + 1) { σ'' with led := led' }
  | .brk => Q .next σ''
  | .ret v => Q (.ret v) σ''
theorem s_for_range {x : Str} {px pos : Pos} {iter : Expr} {body : List Stmt} {Q : Fl → St → Prop} (I : Nat → St → Prop) (n : Nat) (hi : ∀ x, foldedSetIterable iter c.env x = pure x) (hz : (n : Int) < 2 ^ 62)
    (h : WE c E iter σ (KRng n I))
    (turn : ∀ k σ' it, k < n → I k σ' → ∃ loc', SetV x (.int k) σ'.loc loc' ∧ WSs c (fun _ _ => False) body ⟨loc', σ'.glo, σ'.cel, (it, .rit ((k : Int) + 1) ((n : Int) - k - 1)) :: σ'.led⟩ (KTurn it (.rit ((k : Int) + 1) ((n : Int) - k - 1)) k I Q))
    (fin : ∀ σ', I n σ' → Q .next σ') : WS c E (.For (.Name x px) iter body [] pos) σ Q := fun s R => by
  rw [arm_exec_For]
  refine wpS_bind (wpS_standAt (wpS_bind (wpS_mono (h s R) (fun u s₁ zq => ?_) fun _ _ z => z)))
  obtain ⟨v, σ₁, R₁, hv, r, l, e, hl, hI⟩ := zq
  rw [hi]
  refine wpS_bind (wpS_pure (wpS_bind (wpS_standAt ?_)))
  subst e
  rw [show u = .ref r from hv]
  obtain ⟨t, t1, t2, hr⟩ := R₁.led (r, _) (by rw [hl]; exact .head _)
  refine wpS_bind (wpS_holding (wpS_of (wpAny_pyIter_range hr (small_one (by decide) (by decide) (by walk_at "o") (by walk_at "o")) ?_)))
  have hsz : Builtin.Range.rangeSize 0 n 1 = (n : Int) := by rw [rangeSize_one]; split <;> (walk_at "o")
  rw [hsz]
  have R₂ := R₁.push (t := s₁.toks) (o := { cls := .type "range_iterator", data := .fields #[rawInt 0, rawInt n, rawInt 1] }) (ob := .rit 0 n) rfl (Heap.get?_push_size _ rfl)
  have R₃ := R₂.sub (led' := (s₁.heap.objs.size, .rit 0 n) :: l) (by rw [hl]; exact .cons (.skip (.refl _)))
  have T : Itr c s₁.heap.objs.size (fun k => .rit (0 + k) ((n : Int) - k)) n (fun k => .int (0 + k)) (fun _ => True) := itr_range R₁.ok.room.2.2
  refine for_core (σ := { σ₁ with led := l }) T I (fun _ _ _ => trivial) (fun k σ' hk hI' => ?_) fin hI ?_
  · obtain ⟨loc', S, hb⟩ := turn k σ' s₁.heap.objs.size hk hI'
    have e0 : (0 : Int) + (k : Int) = k := by walk_at "o"
    have e1 : (0 : Int) + ((k + 1 : Nat) : Int) = k + 1 := by walk_at "o"
    have e2 : (n : Int) - ((k + 1 : Nat) : Int) = n - k - 1 := by walk_at "o"
    refine ⟨loc', by rw [e0]; exact S, ?_⟩
    simp only [e1, e2]
    exact hb
  · show Rel c { σ₁ with led := (_, Ob.rit (0 + ((0 : Nat) : Int)) ((n : Int) - ((0 : Nat) : Int))) :: l } _
    rw [show (0 : Int) + ((0 : Nat) : Int) = 0 by walk_at "o", show (n : Int) - ((0 : Nat) : Int) = n by walk_at "o"]
    exact R₃
theorem s_for_list {x : Str} {px pos : Pos} {iter : Expr} {body : List Stmt} {Q : Fl → St → Prop} (I : Nat → St → Prop) (xs : List V) (l : Addr) (hi : ∀ x, foldedSetIterable iter c.env x = pure x)
    (h : WE c E iter σ (fun v σ₁ => v = .cst (.ref l) ∧ (l, Ob.list xs) ∈ σ₁.led ∧ I 0 σ₁)) (hP : ∀ k σ', I k σ' → (l, Ob.list xs) ∈ σ'.led)
    (turn : ∀ k σ' it, k < xs.length → I k σ' → ∃ loc', SetV x (xs.getD k .none) σ'.loc loc' ∧ WSs c (fun _ _ => False) body ⟨loc', σ'.glo, σ'.cel, (it, .lit l (k + 1)) :: σ'.led⟩ (KTurn it (.lit l (k + 1)) k I Q))
    (fin : ∀ σ', I xs.length σ' → Q .next σ') : WS c E (.For (.Name x px) iter body [] pos) σ Q := fun s R => by
  rw [arm_exec_For]
  refine wpS_bind (wpS_standAt (wpS_bind (wpS_mono (h s R) (fun u s₁ zq => ?_) fun _ _ z => z)))
  obtain ⟨v, σ₁, R₁, hv, e, hm, hI⟩ := zq
  rw [hi]
  refine wpS_bind (wpS_pure (wpS_bind (wpS_standAt ?_)))
  subst e
  rw [show u = .ref l from hv]
  obtain ⟨us, n, hl, hus⟩ := R₁.led _ hm
  refine wpS_bind (wpS_holding (wpS_of (wpAny_pyIter_list (isList_of hl) ?_)))
  have R₂ := R₁.push (t := s₁.toks) (o := { cls := .type "list_iterator", data := .fields #[.ref l, .int 0 0] }) (ob := .lit l 0) rfl ⟨_, Heap.get?_push_size _ rfl, rfl, rfl⟩
  exact for_core (σ := σ₁) (itr_list R₁.ok.room.2.2) I hP (fun k σ' hk hI' => turn k σ' _ hk hI') fin hI R₂
end
theorem wantsAll (E : Value → Shared → Prop) : True := trivial
noncomputable def intsV (ns : List Int) : List V := ns.map .int
noncomputable def toB (ns : List Int) : List UInt8 := ns.map fun n => n.toNat.toUInt8
theorem intsAre_of : ∀ {ns : List Int} {us : List Value}, AtAll (intsV ns) us → IntsAre us ns
  | [], [], _ => .nil
  | n :: ns, u :: us, ⟨⟨t, h⟩, r⟩ => by
    subst h
    exact .cons _ _ (intsAre_of (ns := ns) r)
  | [], _ :: _, h => h.elim
  | _ :: _, [], h => h.elim
namespace BA
theorem noBytesB : typeLookup (.type "bytes") "__bytes__" = pure (some (.builtin "bytes.__bytes__")) := by rw [typeLookup_type, builtinLookup_eq_fast]; kernel_rfl
theorem owner_new : ("bytearray.__new__".splitOn ".__new__").headD "" = "bytearray" := by simp +decide [String.splitOn, String.splitOnAux]
section
variable {prog : Program} {w : World} {A : Around} {E : Value → Shared → Prop} {s : Shared}
theorem bytes_bytes {b : Array UInt8} {t : Tok} {Q : Value → Shared → Prop} (h : Q (.bytes b t) s) : wpAny (model prog w) A (call (.type "bytes") [.bytes b t]) Q E s := by
  refine callType_codes (Q₁ := fun obj s₁ => s₁.TypeIs obj "bytes" ∧ Q obj s₁) F.bm_called (F.bm_typeCall _) F.entry_object_init ?_ fun obj s₁ h₁ => ?_
  · refine codeAny_of_tree ?_
    show wpAny _ A.in1.in1 (do checkBuiltinCall "bytes.__new__" ⟨[.type "bytes", .bytes b t], []⟩; again (.builtin "bytes.__new__" ⟨[.type "bytes", .bytes b t], []⟩)) _ _ s
    refine wpAny_bind (wpAny_of_eq (F.bm_newCall _) (wpAny_pure ⟨plainId_quiet F.bm_plain _, codeAny_builtin F.bm_entry ?_⟩))
    rw [Around.under_plainId F.bm_plain _]
    have hT : s.TypeIs (.bytes b t) "bytes" := PySem.W.typeIs_bytes _ _ _
    unfold Builtin.«bytes.__new__»
    refine wpAny_bind (wpAny_of_eq (a := true) rfl ?_)
    refine bm_if_false rfl ?_
    refine wpAny_bind (wpAny_of_eq F.bm_sub ?_)
    refine bm_if_false rfl ?_
    refine wpAny_bind (wpAny_of_eq (F.bm_bind _) ?_)
    refine wpAny_bind (wpAny_of_eq (a := ()) rfl ?_)
    refine wpAny_bind (wpAny_of_eq (a := ()) rfl ?_)
    refine bm_if_false rfl ?_
    refine wpAny_bind (wpAny_specialOf hT noBytesB ?_)
    refine wpAny_bind (wpAny_rule ?_)
    refine wpAny_bind (wpAny_of_eq (a := .type "bytes") rfl ?_)
    refine bm_if_true (by decide) ?_
    show wpAny _ _ (if (Value.type "bytes" == Value.type "bytes") = true then _ else _) _ _ _
    refine bm_if_true (by decide) ?_
    first
      | exact wpAny_pure ⟨hT, h⟩
      | exact wpAny_bind (wpAny_pure (wpAny_pure ⟨hT, h⟩))
  · exact ⟨h₁.1, F.args_object_init_2 obj _, object_init_meets F.bm_called.init.lookup F.bm_called.made (by decide) prog w A.in1 _ s₁ ⟨h₁.1, rfl, h₁.2⟩⟩
end
section
variable {M : Model} {A : Around} {E : Value → Shared → Prop} {s : Shared} {a : Addr} {b : List UInt8}
theorem own_slot {name : String} {id : String} {Q : Bool → Shared → Prop} (ho : s.heap.get? a = some (baObj b)) (hl : typeLookup (.type "bytearray") (name : Str) = pure (some (.builtin id))) (he : (id.endsWith ("." ++ name)) = true) (hd : id.dropRight (name.length + 1) = "bytearray")
    (h : Q true s) : wpAny M A (Builtin.Bytes.slotIsOwn (.ref a) name) Q E s := by
  unfold Builtin.Bytes.slotIsOwn
  refine wpAny_bind (wpAny_specialOf (typeIs ho) hl ?_)
  dsimp only
  rw [he, hd]
  exact wpAny_isInstance (typeIs ho) sub_self h
theorem own_release {Q : Bool → Shared → Prop} (ho : s.heap.get? a = some (baObj b)) (h : Q false s) : wpAny M A (Builtin.Bytes.ownRelease (.ref a)) Q E s := by
  unfold Builtin.Bytes.ownRelease
  exact wpAny_bind (own_slot ho look_release (by decide +kernel) (by decide +kernel) (wpAny_pure h))
theorem asStr_none {Q : Option Str → Shared → Prop} (ho : s.heap.get? a = some (baObj b)) (h : Q none s) : wpAny M A (asStr? (.ref a)) Q E s := by
  unfold asStr?
  refine wpAny_bind (wpAny_load ho ?_)
  exact wpAny_pure h
theorem buffer_full {id : String} {Q : Option (Array UInt8) → Shared → Prop} (ho : s.heap.get? a = some (baObj b)) (h : Q (some b.toArray) s) : wpAny M A (Builtin.Bytes.buffer? id (.ref a) true) Q E s := by
  unfold Builtin.Bytes.buffer?
  refine wpAny_bind (wpAny_specialOf (typeIs ho) look_buffer ?_)
  dsimp only
  refine wpAny_bind (own_slot ho look_buffer (by decide +kernel) (by decide +kernel) ?_)
  refine wpAny_bind (wpAny_specialOf (typeIs ho) look_buffer ?_)
  refine wpAny_bind (own_release ho ?_)
  exact wpAny_bind (payloadS ho (wpAny_pure h))
end
section
variable {prog : Program} {w : World} {A : Around} {E : Value → Shared → Prop} {s : Shared}
theorem bytes_ba {a : Addr} {b : List UInt8} {Q : Value → Shared → Prop} (ho : s.heap.get? a = some (baObj b)) (hz : b.length ≤ 16777216) (h : ∀ t k, Q (.bytes b.toArray t) { s with toks := k }) : wpAny (model prog w) A (call (.type "bytes") [.ref a]) Q E s := by
  refine callType_codes (Q₁ := fun obj s₁ => s₁.TypeIs obj "bytes" ∧ Q obj s₁) F.bm_called (F.bm_typeCall _) F.entry_object_init ?_ fun obj s₁ h₁ => ?_
  · refine codeAny_of_tree ?_
    show wpAny _ A.in1.in1 (do checkBuiltinCall "bytes.__new__" ⟨[.type "bytes", .ref a], []⟩; again (.builtin "bytes.__new__" ⟨[.type "bytes", .ref a], []⟩)) _ _ s
    refine wpAny_bind (wpAny_of_eq (F.bm_newCall _) (wpAny_pure ⟨plainId_quiet F.bm_plain _, codeAny_builtin F.bm_entry ?_⟩))
    rw [Around.under_plainId F.bm_plain _]
    have hT : s.TypeIs (.ref a) "bytearray" := typeIs ho
    unfold Builtin.«bytes.__new__»
    refine wpAny_bind (wpAny_of_eq (a := true) rfl ?_)
    refine bm_if_false rfl ?_
    refine wpAny_bind (wpAny_of_eq F.bm_sub ?_)
    refine bm_if_false rfl ?_
    refine wpAny_bind (wpAny_of_eq (F.bm_bind _) ?_)
    refine wpAny_bind (wpAny_of_eq (a := ()) rfl ?_)
    refine wpAny_bind (wpAny_of_eq (a := ()) rfl ?_)
    refine bm_if_false rfl ?_
    refine wpAny_bind (wpAny_specialOf hT noBytes ?_)
    refine wpAny_bind (wpAny_bind (asStr_none ho ?_))
    refine wpAny_pure ?_
    refine bm_if_false rfl ?_
    refine wpAny_bind (wpAny_specialOf hT noIndex ?_)
    refine bm_if_true rfl ?_
    first
      | show wpAny _ _ (Builtin.Bytes.buffer? "bytes.__new__" (.ref a) true >>= _) _ _ _
      | (refine wpAny_bind ?_; show wpAny _ _ (Builtin.Bytes.buffer? "bytes.__new__" (.ref a) true >>= _) _ _ _)
    refine wpAny_bind (buffer_full ho ?_)
    dsimp only
    refine wpAny_bind (wpAny_rule ?_)
    refine wpAny_bind (wpAny_mkBytes ?_ (by rw [sizeLine_eq]; simpa using hz))
    show wpAny _ _ (if (Value.type "bytes" == Value.type "bytes") = true then _ else _) _ _ _
    refine bm_if_true (by decide) ?_
    first
      | exact wpAny_pure ⟨PySem.W.typeIs_bytes _ _ _, h _ _⟩
      | exact wpAny_bind (wpAny_pure (wpAny_pure ⟨PySem.W.typeIs_bytes _ _ _, h _ _⟩))
      | exact wpAny_pure (wpAny_pure ⟨PySem.W.typeIs_bytes _ _ _, h _ _⟩)
  · exact ⟨h₁.1, F.args_object_init_2 obj _, object_init_meets F.bm_called.init.lookup F.bm_called.made (by decide) prog w A.in1 _ s₁ ⟨h₁.1, rfl, h₁.2⟩⟩
theorem entry_new' : entryFor table "bytearray.__new__" = some Builtin.«list.__new__» := entry_new
theorem new_ba {xs : List Value} (hc : checkBuiltinCall "bytearray.__new__" ⟨.type "bytearray" :: xs, []⟩ = pure ()) {Q : Value → Shared → Prop} (h : Q (.ref s.heap.objs.size) { s with heap := s.heap.push (baObj []) }) :
    wpAny (model prog w) A (call (.builtin "bytearray.__new__") (.type "bytearray" :: xs)) Q E s := by
  refine wpAny_call (codeAny_of_tree ?_)
  show wpAny _ A.in1 (do checkBuiltinCall "bytearray.__new__" ⟨.type "bytearray" :: xs, []⟩; again (.builtin "bytearray.__new__" ⟨.type "bytearray" :: xs, []⟩)) _ _ s
  refine wpAny_bind (wpAny_of_eq hc (wpAny_pure ⟨plainId_quiet plain_new _, codeAny_builtin_stack entry_new rfl fun p st => ?_⟩))
  rw [Around.under_plainId plain_new _]
  have hsub := sub_self
  have hown := owner_new
  obtain ⟨hp, g, d, tk, os⟩ := s
  simp only [hown]
  wp_walk
  exact h
theorem bind0 : Builtin.Bytes.bindOptional "bytearray.__init__" "bytearray" ["source", "encoding", "errors"] [] [] = pure [none, none, none] := by kernel_rfl
theorem bind1 (v : Value) : Builtin.Bytes.bindOptional "bytearray.__init__" "bytearray" ["source", "encoding", "errors"] [v] [] = pure [some v, none, none] := by kernel_rfl
theorem exportsS {M : Model} {a : Addr} {b : List UInt8} {Q : Bool → Shared → Prop} (ho : s.heap.get? a = some (baObj b)) (h : Q false s) :
    wpS M A (Builtin.Bytes.exported (.ref a) <||> (do return (← Builtin.Bytes.exportsOf (.ref a)) > 0)) Q E s := by
  show wpS M A (Builtin.Bytes.exported (.ref a) >>= fun t => _) Q E s
  refine wpS_bind (wpS_exported ?_)
  show wpS M A (Builtin.Bytes.exportsOf (.ref a) >>= fun n => pure (decide (n > 0))) Q E s
  unfold Builtin.Bytes.exportsOf
  exact wpS_bind (wpS_bind (wpS_load ho (wpS_pure (wpS_pure h))))
end
namespace init_ba0
noncomputable def Stm (prog : Program) (w : World) (A : Around) (E : Value → Shared → Prop) (s : Shared) (a : Addr) (Q : Value → Shared → Prop) : Prop := ∀ (ho : s.heap.get? a = some (baObj [])) (h : ∀ h', Heap.SameBut a s.heap h' → h'.get? a = some (baObj []) → Q .none { s with heap := h' }), wpS (model prog w) A (call (.builtin "bytearray.__init__") [.ref a]) Q E s
noncomputable def tt0 : Program × World × Around × (Value → Shared → Prop) × Shared × Addr × (Value → Shared → Prop) := (default, gx0.w, {}, fun _ _ => True, {}, 0, fun _ _ => True)
noncomputable def Stq (q : Program × World × Around × (Value → Shared → Prop) × Shared × Addr × (Value → Shared → Prop)) : Prop := Stm (q.1) (q.2.1) (q.2.2.1) (q.2.2.2.1) (q.2.2.2.2.1) (q.2.2.2.2.2.1) (q.2.2.2.2.2.2)
noncomputable def pp0 : Program × World × Around × (Value → Shared → Prop) × Shared × Addr × (Value → Shared → Prop) := eps0 tt0 Stq
@[irreducible] noncomputable def prog : Program := pp0.1
@[irreducible] noncomputable def w : World := pp0.2.1
@[irreducible] noncomputable def A : Around := pp0.2.2.1
@[irreducible] noncomputable def E : Value → Shared → Prop := pp0.2.2.2.1
@[irreducible] noncomputable def s : Shared := pp0.2.2.2.2.1
@[irreducible] noncomputable def a : Addr := pp0.2.2.2.2.2.1
@[irreducible] noncomputable def Q : Value → Shared → Prop := pp0.2.2.2.2.2.2
theorem zz0 : Stm prog w A E s a Q := by
  intro ho h
  refine call_slotS slot_init (typeIs ho) (fun _ => clean_of (by decide +kernel) _) entry_init (args_init0 _) ?_
  unfold Builtin.«bytearray.__init__»
  refine wpS_bindL (own_release ho ?_)
  dsimp only
  refine wpS_bind (wpS_of_eq bind0 ?_)
  refine wpS_bind (wpS_of_eq (a := ()) rfl ?_)
  refine wpS_bind (wpS_of_eq (a := ()) rfl ?_)
  refine wpS_bind (exportsS ho ?_)
  dsimp only
  refine wpS_bindL (writeS (m := []) ho rfl (Nat.zero_le _) fun h' hs hg => ?_)
  exact wpS_pure ⟨_, rfl, h h' hs hg⟩
end init_ba0
theorem init_ba0 {prog : Program} {w : World} {A : Around} {E : Value → Shared → Prop} {s : Shared} {a : Addr} {Q : Value → Shared → Prop} : init_ba0.Stm prog w A E s a Q :=
  eps_at init_ba0.Stq init_ba0.tt0 (by with_unfolding_all exact init_ba0.zz0) (prog, w, A, E, s, a, Q)
section
variable {prog : Program} {w : World} {A : Around} {E : Value → Shared → Prop} {s : Shared}
end
namespace init_ba1
noncomputable def Stm (prog : Program) (w : World) (A : Around) (E : Value → Shared → Prop) (s : Shared) (a a' : Addr) (b : List UInt8) (Q : Value → Shared → Prop) : Prop := ∀ (ho : s.heap.get? a = some (baObj [])) (hb : s.heap.get? a' = some (baObj b)) (hne : a' ≠ a) (hz : b.length ≤ 16777216) (h : ∀ h', Heap.SameBut a s.heap h' → h'.get? a = some (baObj b) → Q .none { s with heap := h' }), wpS (model prog w) A (call (.builtin "bytearray.__init__") [.ref a, .ref a']) Q E s
noncomputable def tt0 : Program × World × Around × (Value → Shared → Prop) × Shared × Addr × Addr × (List UInt8) × (Value → Shared → Prop) := (default, gx0.w, {}, fun _ _ => True, {}, 0, 0, [], fun _ _ => True)
noncomputable def Stq (q : Program × World × Around × (Value → Shared → Prop) × Shared × Addr × Addr × (List UInt8) × (Value → Shared → Prop)) : Prop := Stm (q.1) (q.2.1) (q.2.2.1) (q.2.2.2.1) (q.2.2.2.2.1) (q.2.2.2.2.2.1) (q.2.2.2.2.2.2.1) (q.2.2.2.2.2.2.2.1) (q.2.2.2.2.2.2.2.2)
noncomputable def pp0 : Program × World × Around × (Value → Shared → Prop) × Shared × Addr × Addr × (List UInt8) × (Value → Shared → Prop) := eps0 tt0 Stq
@[irreducible] noncomputable def prog : Program := pp0.1
@[irreducible] noncomputable def w : World := pp0.2.1
@[irreducible] noncomputable def A : Around := pp0.2.2.1
@[irreducible] noncomputable def E : Value → Shared → Prop := pp0.2.2.2.1
@[irreducible] noncomputable def s : Shared := pp0.2.2.2.2.1
@[irreducible] noncomputable def a : Addr := pp0.2.2.2.2.2.1
noncomputable def pp6 : Addr × (List UInt8) × (Value → Shared → Prop) := pp0.2.2.2.2.2.2
@[irreducible] noncomputable def a' : Addr := pp6.1
@[irreducible] noncomputable def b : List UInt8 := pp6.2.1
@[irreducible] noncomputable def Q : Value → Shared → Prop := pp6.2.2
theorem zz0 : Stm prog w A E s a a' b Q := by
  intro ho hb hne hz h
  refine call_slotS slot_init (typeIs ho) (fun _ => clean_of (by decide +kernel) _) entry_init (args_init1 _ _) ?_
  unfold Builtin.«bytearray.__init__»
  refine wpS_bindL (own_release ho ?_)
  dsimp only
  refine wpS_bind (wpS_of_eq (bind1 _) ?_)
  refine wpS_bind (wpS_of_eq (a := ()) rfl ?_)
  refine wpS_bind (wpS_of_eq (a := ()) rfl ?_)
  refine wpS_bind (exportsS ho ?_)
  dsimp only
  refine wpS_bindL (writeS (m := []) ho rfl (Nat.zero_le _) fun h' hs hg => ?_)
  have hb' : h'.get? a' = some (baObj b) := (hs.2 a' hne).trans hb
  refine wpS_bindL (asStr_none hb' ?_)
  refine wpS_bind (wpS_of_eq (a := ()) rfl ?_)
  refine wpS_bindL (wpAny_specialOf (typeIs hb') noIndex ?_)
  refine wpS_bindL (buffer_full hb' ?_)
  dsimp only
  refine wpS_bind (wpS_rule (wpS_bindL (writeS (m := b) hg rfl hz fun h'' hs' hg' => ?_)))
  exact wpS_pure ⟨_, rfl, h h'' (hs.trans hs') hg'⟩
end init_ba1
theorem init_ba1 {prog : Program} {w : World} {A : Around} {E : Value → Shared → Prop} {s : Shared} {a a' : Addr} {b : List UInt8} {Q : Value → Shared → Prop} : init_ba1.Stm prog w A E s a a' b Q :=
  eps_at init_ba1.Stq init_ba1.tt0 (by with_unfolding_all exact init_ba1.zz0) (prog, w, A, E, s, a, a', b, Q)
section
variable {prog : Program} {w : World} {A : Around} {E : Value → Shared → Prop} {s : Shared}
end
end BA
section
variable {c : Fx} {E : Value → Shared → Prop} {σ : St}
theorem call_ba0 {Q : V → St → Prop} (q : ∀ a, Q (.cst (.ref a)) { σ with led := (a, .ba []) :: σ.led }) : CallO c E (.type "bytearray") [] σ Q := fun vs hvs s R => by
  obtain rfl := at0 hvs
  refine callTypeS BA.called BA.typeCall0 (BA.new_ba BA.newCall0 ⟨⟨_, Heap.get?_push_size _ rfl, rfl⟩, BA.init_ba0 (Heap.get?_push_size _ rfl) fun h' hs hg => ⟨rfl, ?_⟩⟩)
  have R₁ := R.push (t := s.toks) (o := BA.baObj []) (ob := .ba []) rfl (Heap.get?_push_size _ rfl)
  exact ⟨.cst (.ref _), _, R₁.upd (t := s.toks) (o' := .ba []) (.head _) rfl (.head _) (fun d ob hd e => (hs.2 d hd).trans e) hg, rfl, q _⟩
theorem call_ba1 {a : Addr} {b : List UInt8} {Q : V → St → Prop} (ha : (a, Ob.ba b) ∈ σ.led) (hz : b.length ≤ 16777216) (q : ∀ a, Q (.cst (.ref a)) { σ with led := (a, .ba b) :: σ.led }) : CallO c E (.type "bytearray") [.cst (.ref a)] σ Q := fun vs hvs s R => by
  obtain ⟨u, rfl, hu⟩ := at1 hvs
  rw [show u = .ref a from hu]
  have hb : s.heap.get? a = some (BA.baObj b) := R.led _ ha
  refine callTypeS BA.called (BA.typeCall1 _) (BA.new_ba (BA.newCall1 _) ⟨⟨_, Heap.get?_push_size _ rfl, rfl⟩, BA.init_ba1 (Heap.get?_push_size _ rfl) (Heap.get?_push_of_some _ hb) (Nat.ne_of_lt (Heap.lt_size hb)) hz fun h' hs hg => ⟨rfl, ?_⟩⟩)
  have R₁ := R.push (t := s.toks) (o := BA.baObj []) (ob := .ba []) rfl (Heap.get?_push_size _ rfl)
  exact ⟨.cst (.ref _), _, R₁.upd (t := s.toks) (o' := .ba b) (.head _) rfl (.head _) (fun d ob hd e => (hs.2 d hd).trans e) hg, rfl, q _⟩
theorem call_bytesA {a : Addr} {b : List UInt8} {Q : V → St → Prop} (ha : (a, Ob.ba b) ∈ σ.led) (hz : b.length ≤ 16777216) (q : Q (.bytes b) σ) : CallO c E (.type "bytes") [.cst (.ref a)] σ Q := fun vs hvs s R => by
  obtain ⟨u, rfl, hu⟩ := at1 hvs
  rw [show u = .ref a from hu]
  exact wpS_of (BA.bytes_ba (R.led _ ha) hz fun t k => hasY R q)
theorem call_bytesB {b : List UInt8} {Q : V → St → Prop} (q : Q (.bytes b) σ) : CallO c E (.type "bytes") [.bytes b] σ Q := fun vs hvs s R => by
  obtain ⟨u, rfl, ⟨t, hu⟩⟩ := at1 hvs
  subst hu
  exact wpS_of (BA.bytes_bytes ⟨.bytes b, σ, R, ⟨t, rfl⟩, q⟩)
theorem call_bytesL {a : Addr} {ns : List Int} {Q : V → St → Prop} (ha : (a, Ob.list (intsV ns)) ∈ σ.led) (hr : ∀ n ∈ ns, 0 ≤ n ∧ n < 256) (hz : ns.length ≤ 16777216) (q : Q (.bytes (toB ns)) σ) : CallO c E (.type "bytes") [.cst (.ref a)] σ Q := fun vs hvs s R => by
  obtain ⟨u, rfl, hu⟩ := at1 hvs
  rw [show u = .ref a from hu]
  obtain ⟨us, n, hl, hus⟩ := R.led _ ha
  refine wpS_of (call_bytes_ints (isList_of hl) (intsAre_of hus) hr (by rw [atAll_length hus, sizeLine_eq]; simpa [intsV] using hz) R.ok.room.2.2 fun h' t k hk => ?_)
  exact ⟨.bytes (toB ns), σ, R.keeps hk, ⟨t, rfl⟩, q⟩
end
noncomputable abbrev KEq (σ : St) (p : Bool) : Bool → St → Prop := fun t σ' => σ' = σ ∧ t = p
noncomputable def BP (c : Fx) (E : Value → Shared → Prop) (e : Expr) (σ : St) (p : Bool) : Prop := BW c E e σ (KEq σ p)
section
variable {c : Fx} {E : Value → Shared → Prop} {σ : St}
theorem BW.mono {e : Expr} {Q Q' : Bool → St → Prop} (h : BW c E e σ Q) (q : ∀ b σ', Q b σ' → Q' b σ') : BW c E e σ Q' := fun s R =>
  wpS_mono (h s R) (fun u s' zq => by obtain ⟨σ', a, d⟩ := zq; exact ⟨σ', a, q _ _ d⟩) fun _ _ x => x
theorem bp_and {a b : Expr} {pos : Pos} {p q : Bool} (ha : BP c E a σ p) (hb : p = true → BP c E b σ q) : BP c E (.BoolOp .And [a, b] pos) σ (p && q) :=
  b_and (ha.mono fun t σ₁ ⟨e, et⟩ => by
    subst e; subst et
    refine ⟨fun h => (hb h).mono fun t' σ₂ ⟨e, et⟩ => ⟨e, by rw [et, h, Bool.true_and]⟩, fun h => ⟨rfl, by rw [h, Bool.false_and]⟩⟩)
theorem bp_or {a b : Expr} {pos : Pos} {p q : Bool} (ha : BP c E a σ p) (hb : p = false → BP c E b σ q) : BP c E (.BoolOp .Or [a, b] pos) σ (p || q) :=
  b_or (ha.mono fun t σ₁ ⟨e, et⟩ => by
    subst e; subst et
    refine ⟨fun h => (hb h).mono fun t' σ₂ ⟨e, et⟩ => ⟨e, by rw [et, h, Bool.false_or]⟩, fun h => ⟨rfl, by rw [h, Bool.true_or]⟩⟩)
theorem bp_and3 {a b d : Expr} {pos : Pos} {p q r : Bool} (ha : BP c E a σ p) (hb : p = true → BP c E b σ q) (hd : p = true → q = true → BP c E d σ r) : BP c E (.BoolOp .And [a, b, d] pos) σ (p && (q && r)) :=
  b_and3 (ha.mono fun t σ₁ ⟨e, et⟩ => by
    subst e; subst et
    refine ⟨fun h => (hb h).mono fun t' σ₂ ⟨e, et⟩ => ?_, fun h => ⟨rfl, by rw [h, Bool.false_and]⟩⟩
    subst e; subst et
    exact ⟨fun h' => (hd h h').mono fun t' σ₂ ⟨e, et⟩ => ⟨e, by rw [et, h, h', Bool.true_and, Bool.true_and]⟩, fun h' => ⟨rfl, by rw [h', Bool.false_and, Bool.and_false]⟩⟩)
theorem bp_not {e : Expr} {pos : Pos} {p : Bool} (h : BP c E e σ p) : BP c E (.UnaryOp .Not e pos) σ (!p) := b_not (BW.mono h fun t σ' ⟨e, et⟩ => ⟨e, by rw [et]⟩)
theorem bp_cmp {l r : Expr} {op : CmpOp} {pos : Pos} {p : Bool} (h : WE c E l σ (KCmp c E r op (KTO c E (KEq σ p)))) (hm : behindInMarks op r = false) : BP c E (.Compare l [op] [r] pos) σ p := b_cmp h hm
theorem bp_plain {e : Expr} {p : Bool} (h : WE c E e σ (KTO c E (KEq σ p))) (hp : plainTest e = true) : BP c E e σ p := b_plain h hp
theorem s_ifp {test : Expr} {body orelse : List Stmt} {pos : Pos} {Q : Fl → St → Prop} {p : Bool} (h : BP c E test σ p) (ht : p = true → WSs c E body σ Q) (hf : p = false → WSs c E orelse σ Q) : WS c E (.If test body orelse pos) σ Q :=
  s_if (h.mono fun t σ' ⟨e, et⟩ => by subst e; subst et; exact ⟨ht, hf⟩)
noncomputable abbrev KCut (P : St → Prop) : Fl → St → Prop := fun fl σ' => fl = .next ∧ P σ'
theorem ss_cut {st : Stmt} {rest : List Stmt} {Q : Fl → St → Prop} (P : St → Prop) (h : WS c E st σ (KCut P)) (k : ∀ σ', P σ' → WSs c E rest σ' Q) : WSs c E (st :: rest) σ Q :=
  ss_cons (FW.mono h fun fl σ' ⟨e, hp⟩ => by subst e; exact k σ' hp)
noncomputable abbrev KWh (n : Nat) (I : Nat → St → Prop) (Q : Fl → St → Prop) : Fl → St → Prop := fun fl σ₃ => match fl with
  | .next | .cont => ∃ m led', m < n ∧ Sub σ₃.led led' ∧ I m { σ₃ with led := led' }
  | .brk => Q .next σ₃
  | .ret v => Q (.ret v) σ₃
theorem s_whilep {test : Expr} {body : List Stmt} {pos : Pos} {Q : Fl → St → Prop} (I : Nat → St → Prop)
    (turn : ∀ n σ', I n σ' → ∃ p, BP c (fun _ _ => False) test σ' p ∧ (p = true → WSs c (fun _ _ => False) body σ' (KWh n I Q)) ∧ (p = false → Q .next σ'))
    (n : Nat) (h0 : I n σ) : WS c E (.While test body [] pos) σ Q := fun s R =>
  s_while (fun n σ' => ∃ led', Sub σ'.led led' ∧ I n { σ' with led := led' }) (fun n σ' ⟨led', hs, hI⟩ s' R' => by
    obtain ⟨p, hb, ht, hf⟩ := turn n _ hI
    refine wpS_mono (hb s' (R'.sub hs)) (fun b s₂ ⟨σ₂, R₂, e, eb⟩ => ⟨σ₂, R₂, ?_⟩) fun _ _ x => x
    subst e; subst eb
    refine ⟨fun h => (ht h).mono fun fl σ₃ q => ?_, fun h => ss_nil (hf h)⟩
    cases fl with
    | next => obtain ⟨m, l, hm, hs, hi⟩ := q; exact ⟨m, hm, l, hs, hi⟩
    | cont => obtain ⟨m, l, hm, hs, hi⟩ := q; exact ⟨m, hm, l, hs, hi⟩
    | brk => exact q
    | ret v => exact q) n ⟨_, .refl _, h0⟩ s R
end
inductive SetVs : List Str → List V → List (Str × V) → List (Str × V) → Prop where
  | nil (l : List (Str × V)) : SetVs [] [] l l
  | cons {x : Str} {v : V} {xs : List Str} {vs : List V} {l l' l'' : List (Str × V)} : SetV x v l l' → SetVs xs vs l' l'' → SetVs (x :: xs) (v :: vs) l l''
noncomputable def targetsOf : List (Str × Pos) → List Expr := List.map fun p => .Name p.1 p.2
section
variable {c : Fx} {E : Value → Shared → Prop} {σ : St}
theorem assignEach_names (env : Env) : ∀ xs : List (Str × Pos), assignEach (targetsOf xs) env = xs.map fun p => (false, assign (.Name p.1 p.2) env)
  | [] => rfl
  | p :: xs => by
    show assignEach (.Name p.1 p.2 :: targetsOf xs) env = _
    rw [List.map_cons, ← assignEach_names env xs]; rfl
theorem storeAll : ∀ {xs : List (Str × Pos)} {vs : List V} {us : List Value} {loc' : List (Str × V)} {σ : St} {s : Shared} {Q : Unit → Shared → Prop}, AtAll vs us → SetVs (xs.map Prod.fst) vs σ.loc loc' → Rel c σ s →
    (∀ s', Rel c { σ with loc := loc' } s' → Q () s') → wpAny (model c.g.prog c.g.w) c.A (assignInOrder (xs.map fun p => assign (.Name p.1 p.2) c.env) us) Q E s
  | [], [], [], _, σ, s, Q, _, .nil _, R, q => wpAny_pure (q _ R)
  | p :: xs, v :: vs, u :: us, _, σ, s, Q, h, .cons S T, R, q => by
    show wpAny _ _ (holding us (assign (.Name p.1 p.2) c.env u) >>= fun _ => assignInOrder (xs.map fun p => assign (.Name p.1 p.2) c.env) us) _ _ _
    exact wpAny_bind (wpAny_holding (assign_Name (storeLoc R h.1 S fun s' R' => storeAll (xs := xs) (σ := { σ with loc := _ }) h.2 T R' q)))
  | [], v :: _, _, _, _, _, _, _, T, _, _ => nomatch T
  | _ :: _, [], _, _, _, _, _, _, T, _, _ => nomatch T
  | [], [], _ :: _, _, _, _, _, h, _, _, _ => h.elim
  | _ :: _, _ :: _, [], _, _, _, _, h, _, _, _ => h.elim
noncomputable abbrev KUnp (xs : List (Str × Pos)) (Q : Fl → St → Prop) : V → St → Prop := fun v σ₁ => ∃ a vs loc', v = .cst (.ref a) ∧ (a, Ob.tup vs) ∈ σ₁.led ∧ vs.length = xs.length ∧ SetVs (xs.map Prod.fst) vs σ₁.loc loc' ∧ Q .next { σ₁ with loc := loc' }
theorem s_unpack {xs : List (Str × Pos)} {k : Nat} {tp pos : Pos} {value : Expr} {Q : Fl → St → Prop}
    (h : WE c E value σ (KUnp xs Q))
    (hs : swapsWithSole [.Tuple (targetsOf xs) k tp] value pos.line c.env = pure false) (hw : swappedStores [.Tuple (targetsOf xs) k tp] value c.env = pure none) :
    WS c E (.Assign [.Tuple (targetsOf xs) k tp] value pos) σ Q := fun s R => by
  rw [exec_Assign]
  refine wpS_bind (wpS_standAt ?_)
  rw [hs]
  refine wpS_bind (wpS_pure ?_)
  rw [if_neg (by decide)]
  refine wpS_bind (wpS_mono (h s R) (fun u s₁ zq => ?_) fun _ _ x => x)
  obtain ⟨v, σ₁, R₁, hv, a, vs, loc', e, ha, hlen, S, q⟩ := zq
  rw [hw]
  refine wpS_bind (wpS_pure ?_)
  show wpS _ _ (assignAll u [assign (.Tuple (targetsOf xs) k tp) c.env] >>= fun _ => pure Flow.next) _ _ s₁
  subst e
  rw [show u = .ref a from hv]
  obtain ⟨us, ht, hus⟩ := R₁.led _ ha
  refine wpS_bindL ?_
  show wpAny _ _ (assign (.Tuple (targetsOf xs) k tp) c.env (.ref a)) _ _ _
  refine wpAny_assign_Tuple R₁.ok.room.2.2 ht ?_ ?_ fun h' he => ?_
  · rw [assignEach_names, List.length_map, List.size_toArray, atAll_length hus, hlen]
  · rw [assignEach_names, List.findIdx?_eq_none_iff]
    intro x hx
    obtain ⟨p, _, rfl⟩ := List.mem_map.mp hx
    rfl
  · rw [assignEach_names, List.map_map]
    refine storeAll (σ := σ₁) hus S (R₁.keeps (t := s₁.toks) fun b o e => he b o (Nat.ne_of_lt (Heap.lt_size e)) e) fun s' R' => ?_
    exact wpS_pure ⟨.next, _, R', rfl, q⟩
theorem s_exprn {e : Expr} {pos : Pos} {Q : Fl → St → Prop} (h : WE c E e σ (KExpr Q)) (hs : swapsWith e none pos.line c.env = pure false) : WS c E (.Expr e pos) σ Q := fun s R =>
  s_expr h (by unfold interactive; rw [R.ok.fn]; rfl) hs s R
theorem call_max2 {i j : Int} {Q : V → St → Prop} (q : Q (.int (if j > i then j else i)) σ) : CallO c E (.builtin "max") [.int i, .int j] σ Q := fun vs hvs s R => by
  obtain ⟨u, v, rfl, ⟨t, hu⟩, ⟨t', hv⟩⟩ := at2 hvs
  subst hu; subst hv
  refine wpS_of (max_two_ints R.ok.room.2.2 fun h' tk hk => ⟨.int (if j > i then j else i), σ, R.keeps hk, ?_, q⟩)
  split
  · exact ⟨_, rfl⟩
  · exact ⟨_, rfl⟩
theorem call_min2 {i j : Int} {Q : V → St → Prop} (q : Q (.int (if j < i then j else i)) σ) : CallO c E (.builtin "min") [.int i, .int j] σ Q := fun vs hvs s R => by
  obtain ⟨u, v, rfl, ⟨t, hu⟩, ⟨t', hv⟩⟩ := at2 hvs
  subst hu; subst hv
  refine wpS_of (min_two_ints R.ok.room.2.2 fun h' tk hk => ⟨.int (if j < i then j else i), σ, R.keeps hk, ?_, q⟩)
  split
  · exact ⟨_, rfl⟩
  · exact ⟨_, rfl⟩
noncomputable abbrev KVP (σ : St) (p : Bool) : V → St → Prop := fun x σ' => σ' = σ ∧ x = .bool p
noncomputable def VP (c : Fx) (E : Value → Shared → Prop) (e : Expr) (σ : St) (p : Bool) : Prop := WE c E e σ (KVP σ p)
theorem vp_of {e : Expr} {p : Bool} (h : WE c E e σ (KVP σ p)) : VP c E e σ p := h
theorem vp_and {a b : Expr} {pos : Pos} {p q : Bool} (ha : VP c E a σ p) (hb : p = true → VP c E b σ q) : VP c E (.BoolOp .And [a, b] pos) σ (p && q) :=
  e_and (TW.mono ha fun x σ₁ ⟨e, ex⟩ => by
    subst e; subst ex
    refine t_bool ⟨fun h => TW.mono (hb h) fun y σ₂ ⟨e, ey⟩ => ⟨e, by rw [ey, h, Bool.true_and]⟩, fun h => ⟨rfl, by rw [h, Bool.false_and]⟩⟩)
theorem vp_or {a b : Expr} {pos : Pos} {p q : Bool} (ha : VP c E a σ p) (hb : p = false → VP c E b σ q) : VP c E (.BoolOp .Or [a, b] pos) σ (p || q) :=
  e_or (TW.mono ha fun x σ₁ ⟨e, ex⟩ => by
    subst e; subst ex
    refine t_bool ⟨fun h => TW.mono (hb h) fun y σ₂ ⟨e, ey⟩ => ⟨e, by rw [ey, h, Bool.false_or]⟩, fun h => ⟨rfl, by rw [h, Bool.true_or]⟩⟩)
theorem vp_use {e : Expr} {p : Bool} {Q : V → St → Prop} (h : VP c E e σ p) (q : Q (.bool p) σ) : WE c E e σ Q := TW.mono h fun x σ' ⟨e, ex⟩ => by subst e; subst ex; exact q
theorem call_bytesN {a : Addr} {xs : List V} (ns : List Int) {Q : V → St → Prop} (ha : (a, Ob.list xs) ∈ σ.led) (e : xs = intsV ns) (hr : ∀ n ∈ ns, 0 ≤ n ∧ n < 256) (hz : ns.length ≤ 16777216) (q : Q (.bytes (toB ns)) σ) : CallO c E (.type "bytes") [.cst (.ref a)] σ Q :=
  call_bytesL (e ▸ ha) hr hz q
theorem FnS.callP {n : Nat} {f : Addr} {ys : List V} {v0 : V} {led0 : Led} {Q' : V → St → Prop} (h : FnS c.g n f ys σ.led (fun v led' => v = v0 ∧ led' = led0) NoX) (hn : n ≤ c.n) (q : Q' v0 { σ with led := led0 }) : CallO c E (.ref f) ys σ Q' :=
  h.call0 hn fun v led' ⟨e, e'⟩ => by subst e; subst e'; exact q
theorem FnS.callT {n : Nat} {f : Addr} {ys : List V} {ob : Ob} {led0 : Led} {Q' : V → St → Prop} (h : FnS c.g n f ys σ.led (fun v led' => ∃ t, v = .cst (.ref t) ∧ led' = (t, ob) :: led0) NoX) (hn : n ≤ c.n) (q : ∀ t, Q' (.cst (.ref t)) { σ with led := (t, ob) :: led0 }) : CallO c E (.ref f) ys σ Q' :=
  h.call0 hn fun v led' ⟨t, e, e'⟩ => by subst e; subst e'; exact q t
end
section
variable {prog : Program} {w : World} {A : Around} {E : Value → Shared → Prop} {s : Shared} {K : Frag} {C : Addr}
theorem clean_typeCall (args : Args) : cleanCode (.builtin "type.__call__" args) = true := clean_of (by decide +kernel) args
theorem quiet_typeCall (args : Args) : (Code.builtin "type.__call__" args).quiet = true := Code.quiet_builtin _ (by decide +kernel)
theorem codeS_typeCall {args : Args} {R : Result → Shared → Prop} (hk : ∀ Q : Unit → Shared → Prop, Q () s → wpAny (model prog w) A.in1 (checkBuiltinCall "type.__call__" args) Q (fun e s' => R (.error e) s') s)
    (h : wpS (model prog w) (A.under (.builtin "type.__call__" args)) (Builtin.«type.__call__» args) (finQ (model prog w) A R) (fun e s' => R (.error e) s') s) : codeS (model prog w) A (.call (.builtin "type.__call__") args) R s := by
  refine codeS_of_tree rfl ?_
  show wpS _ A.in1 (checkBuiltinCall "type.__call__" args >>= fun _ => again (.builtin "type.__call__" args)) _ _ s
  exact wpS_bindL (hk _ (wpS_pure ⟨quiet_typeCall args, codeS_builtin (clean_typeCall args) entry_typeCall h⟩))
theorem callClassS {rest : List Value} {fI : Addr} {Q : Value → Shared → Prop} (X : K.In s.heap) (hm : makesIn K C = true) (hi : findIn K (.ref C) "__init__" = some (some (.ref fI))) (hf : typeIn K (.ref fI) = some (.type "function"))
    (h : wpS (model prog w) (A.under (.builtin "type.__call__" ⟨.ref C :: rest, []⟩)) (call (.ref fI) (.ref (s.heap.objs.size + 1) :: rest)) (fun r s' => r = .none ∧ Q (.ref (s.heap.objs.size + 1)) s') E
      { s with heap := (s.heap.push emptyDict).push (instObj C s.heap.objs.size) }) : wpS (model prog w) A (call (.ref C) rest) Q E s := by
  have Y := makes_of (M := model prog w) X hm
  have Li := looks_findIn (M := model prog w) X hi
  have Lb : ∀ self, Looks (model prog w) s.heap (bindSpecial (.ref fI) self) (.ref fI, [self]) := fun self => bind_fn X self hf
  have Y' := Y
  obtain ⟨⟨oc, od, cd, sl, hC, e1, e2, e4⟩, made, base, self, top, call', typ⟩ := Y
  refine wpS_call (codeS_of_tree rfl ?_)
  show wpS _ A.in1 (callAny (.ref C) _) _ _ _
  simp only [callAny]
  refine wpS_bind (wpS_load hC ?_)
  dsimp only
  show wpS _ _ (callAny.viaDunder (.ref C) _) _ _ _
  unfold callAny.viaDunder
  refine wpS_bind (looksS call' ?_)
  dsimp only
  rw [tc_bind]
  refine wpS_bind (wpS_pure (wpS_bind (wpS_pure ?_)))
  refine wpS_pure (a := Fin.again (.call (.builtin "type.__call__") ⟨.ref C :: rest, []⟩)) (And.intro rfl ?_)
  refine codeS_typeCall (fun Q q => check_slot tc_kind tc_split typ (tc_args _ _ _) q) ?_
  have hmro : Looks (model prog w) s.heap (mroOf (.ref C)) cd.mro := ((Looks.ld (part := none) hC).andThen .now).andThen .now
  unfold Builtin.«type.__call__»
  show wpS _ _ (mroOf (.ref C) >>= _) _ _ _
  refine wpS_bind (looksS hmro ?_)
  rw [e4]
  refine wpS_bind (looksS made ?_)
  refine wpS_bind (wpS_pure ?_)
  refine wpS_bind (wpS_holding (wpS_of (wpAny_call ?_)))
  obtain ⟨hh, gg, d, t, os⟩ := s
  refine new_K Y' Li (.inl rfl) ?_
  have k : ∀ b o, hh.get? b = some o → ((hh.push emptyDict).push (instObj C hh.objs.size)).get? b = some o := fun b o e => Heap.get?_push_of_some _ (Heap.get?_push_of_some _ e)
  have hx : ((hh.push emptyDict).push (instObj C hh.objs.size)).get? (hh.objs.size + 1) = some (instObj C hh.objs.size) := by
    have := Heap.get?_push_size (hh.push emptyDict) (o := instObj C hh.objs.size) rfl
    rwa [Heap.size_push] at this
  have t1 : Looks (model prog w) ((hh.push emptyDict).push (instObj C hh.objs.size)) (typeOf (.ref (hh.objs.size + 1))) (.ref C) := (Looks.ld hx).andThen .now
  have s1 := self.keeps k
  have i1 := Li.keeps k
  have b1 := (Lb (.ref (hh.objs.size + 1))).keeps k
  refine wpS_bind (looksS (t1.andThen s1) ?_)
  have key : wpS (model prog w) (A.under (.builtin "type.__call__" ⟨.ref C :: rest, []⟩)) (callSpecial? (.ref (hh.objs.size + 1)) "__init__" rest) (fun r s₂ => r = some .none ∧ Q (.ref (hh.objs.size + 1)) s₂) E ⟨(hh.push emptyDict).push (instObj C hh.objs.size), gg, d, t, os⟩ := by
    unfold callSpecial? specialOf
    refine wpS_bind (wpS_bind (looksS t1 (looksS i1 ?_)))
    dsimp only
    refine wpS_holding (wpS_bind (looksS b1 ?_))
    dsimp only
    exact wpS_bind (wpS_mono h (fun r s₂ zq => by obtain ⟨e, q⟩ := zq; exact wpS_pure ⟨by rw [e], q⟩) fun _ _ x => x)
  refine wpS_bind (wpS_holding (wpS_mono key (fun r s₂ zq => ?_) fun _ _ x => x))
  obtain ⟨e, q⟩ := zq
  subst e
  exact wpS_pure q
theorem class_room {n : Nat} {rest : List Value} (h : Room (n + 1) A) : Room n (A.under (.builtin "type.__call__" ⟨.ref C :: rest, []⟩)) := by
  obtain ⟨h1, h2, h3⟩ := h
  refine ⟨?_, ?_, h3⟩
  · show A.depth + 1 + 8 * n < _
    (walk_at "o")
  · show A.units + 1 + 40 * n < _
    (walk_at "o")
theorem class_frames {l : List Env} {rest : List Value} (h : A.frames = some l) : (A.under (.builtin "type.__call__" ⟨.ref C :: rest, []⟩)).frames = some l := h
end
section
variable {c : Fx} {E : Value → Shared → Prop} {σ : St}
theorem Rel.made {s : Shared} {t : Tok} {C : Addr} (R : Rel c σ s) : Rel c { σ with led := (s.heap.objs.size + 1, .inst C s.heap.objs.size []) :: σ.led } { s with heap := (s.heap.push emptyDict).push (instObj C s.heap.objs.size), toks := t } := by
  have hx : ((s.heap.push emptyDict).push (instObj C s.heap.objs.size)).get? (s.heap.objs.size + 1) = some (instObj C s.heap.objs.size) := by
    have := Heap.get?_push_size (s.heap.push emptyDict) (o := instObj C s.heap.objs.size) rfl
    rwa [Heap.size_push] at this
  refine R.fresh (fun b o e => Heap.get?_push_of_some _ (Heap.get?_push_of_some _ e)) (fun b hb => ?_) ?_ ⟨hx, [], 0, Heap.get?_push_of_some _ (Heap.get?_push_size _ rfl), trivial⟩
  · have : s.heap.objs.size ≤ b := by
      rcases List.mem_cons.mp hb with rfl | hb
      · (walk_at "o")
      · rcases List.mem_cons.mp hb with rfl | hb
        · (walk_at "o")
        · cases hb
    cases q : s.heap.get? b with
    | none => rfl
    | some o => exact absurd (Heap.lt_size q) (Nat.not_lt.mpr this)
  · show [s.heap.objs.size + 1, s.heap.objs.size].Nodup
    simp
structure MakesOk (K : Frag) (C fI : Addr) : Prop where
  makes : makesIn K C = true
  init : findIn K (.ref C) "__init__" = some (some (.ref fI))
  fn : typeIn K (.ref fI) = some (.type "function")
theorem call_class {C fI : Addr} {n : Nat} {ys : List V} {Q0 : Addr → Led → Prop} {X : Addr → Led → Prop} {Q' : V → St → Prop} (m : MakesOk c.g.K C fI) (hn : n + 1 ≤ c.n)
    (h : ∀ x dx, FnS c.g n fI (.cst (.ref x) :: ys) ((x, .inst C dx []) :: σ.led) (fun v led' => v = .none ∧ Q0 x led') X)
    (hX : ∀ e s, Rz c σ X e s → E e s) (q : ∀ x led', Q0 x led' → Q' (.cst (.ref x)) { σ with led := led' }) : CallO c E (.ref C) ys σ Q' := fun vs hvs s R => by
  refine callClassS R.K m.makes m.init m.fn ?_
  have R₁ := R.made (C := C) (t := s.toks)
  have hat : AtAll (.cst (.ref (s.heap.objs.size + 1)) :: ys) (.ref (s.heap.objs.size + 1) :: vs) := ⟨rfl, hvs⟩
  refine wpS_mono (h (s.heap.objs.size + 1) s.heap.objs.size c _ _ _ (.ref (s.heap.objs.size + 1) :: vs) rfl R₁ rfl (class_frames R.ok.A) (class_room (R.ok.room.le hn)) hat) (fun u s' zq => ?_) fun e s' hz => hX e s' hz
  obtain ⟨v, led', R', hv, e, hq⟩ := zq
  subst e
  exact ⟨hv, .cst (.ref (s.heap.objs.size + 1)), _, R', rfl, q _ _ hq⟩
theorem call_class0 {C : Addr} {Q' : V → St → Prop} (m : makesIn c.g.K C = true) (hi : findIn c.g.K (.ref C) "__init__" = some (some (.builtin "object.__init__")))
    (q : ∀ x dx, Q' (.cst (.ref x)) { σ with led := (x, .inst C dx []) :: σ.led }) : CallO c E (.ref C) [] σ Q' := fun vs hvs s R => by
  obtain rfl := at0 hvs
  have X := R.K
  have R₁ := R.made (C := C) (t := s.toks)
  refine wpS_of (wpAny_call ?_)
  obtain ⟨hh, g, d, t, os⟩ := s
  have Y := makes_of (M := model c.g.prog c.g.w) X m
  refine make_core Y (looks_findIn X hi) (fun self => Looks.of_pure (oi_bind self)) (.inr ⟨rfl, rfl⟩) ?_
  have hx : ((hh.push emptyDict).push (instObj C hh.objs.size)).get? (hh.objs.size + 1) = some (instObj C hh.objs.size) := by
    have := Heap.get?_push_size (hh.push emptyDict) (o := instObj C hh.objs.size) rfl
    rwa [Heap.size_push] at this
  have t1 : Looks (model c.g.prog c.g.w) ((hh.push emptyDict).push (instObj C hh.objs.size)) (typeOf (.ref (hh.objs.size + 1))) (.ref C) := (Looks.ld hx).andThen .now
  have t2 : Looks (model c.g.prog c.g.w) ((hh.push emptyDict).push (instObj C hh.objs.size)) (isInstance (.ref (hh.objs.size + 1)) (.type "object")) true := t1.andThen (Y.top.keeps fun b o e => Heap.get?_push_of_some _ (Heap.get?_push_of_some _ e))
  refine codeAny_call_builtin oi_plain entry_oi (@check_slot (model c.g.prog c.g.w) _ _ _ "object.__init__" "object" "__init__" (.ref (hh.objs.size + 1)) [] [] _ oi_kind oi_split t2 (oi_args (.ref (hh.objs.size + 1))) ?_)
  rw [oi_run]
  exact wpAny_pure (And.intro rfl ⟨.cst (.ref _), _, R₁, rfl, q _ _⟩)
end
noncomputable def Ey (c : Fx) (P : Addr → St → Prop) (x : Value) (s : Shared) : Prop := ∃ (C : Addr) (σ' : St), (∃ e t, x = .ref e ∧ Rel c { σ' with led := (e, .exc C t) :: σ'.led } s) ∧ P C σ'
noncomputable abbrev ExcT := Str × Str × Addr × List Value × List Value × Bool × List Str × List Value × Bool × Option Bool × Option Addr × (Nat → Option Value)
noncomputable abbrev ExcT.o (C : Addr) (d : ExcT) : Obj := excClassObj d.1 d.2.1 C d.2.2.1 d.2.2.2.1 d.2.2.2.2.1 d.2.2.2.2.2.1 d.2.2.2.2.2.2.1 d.2.2.2.2.2.2.2.1 d.2.2.2.2.2.2.2.2.1 d.2.2.2.2.2.2.2.2.2.1 d.2.2.2.2.2.2.2.2.2.2.1
  (d.2.2.2.2.2.2.2.2.2.2.2 0) (d.2.2.2.2.2.2.2.2.2.2.2 1) (d.2.2.2.2.2.2.2.2.2.2.2 2) (d.2.2.2.2.2.2.2.2.2.2.2 3) (d.2.2.2.2.2.2.2.2.2.2.2 5) "Exception.__new__"
noncomputable abbrev excB : List Value := [.type "Exception", .type "BaseException", .type "object"]
noncomputable def ExcOk (K : Frag) (C : Addr) : Prop := ∃ d : ExcT, K.lookup C = some (d.o C) ∧ nsOkIn K d.2.2.1 = true ∧ nsIn K d.2.2.1 "__init__" = some none ∧ tailIn K excB d.2.2.2.2.1 = true
theorem exc_obj {K : Frag} {h : Heap} {C : Addr} (X : K.In h) (q : ExcOk K C) : ∃ d : ExcT, h.get? C = some (d.o C) ∧ h.Ns d.2.2.1 (h.nsMap d.2.2.1) ∧ h.nsMap d.2.2.1 "__init__" = none ∧ OwnTail h excB d.2.2.2.2.1 := by
  obtain ⟨d, h1, h2, h3, h4⟩ := q
  exact ⟨d, X _ _ h1, .of_isNs (isNs_of_in X h2), nsMap_none_of_in X h2 h3, tail_of_in X h4⟩
section
variable {c : Fx} {E : Value → Shared → Prop} {σ : St}
theorem name_gl {A : Around} {E : Value → Shared → Prop} {x : Str} {pos : Pos} {v : V} {fd : FuncData} {f : Addr} {body : List Stmt} {ps : List Str} {Q : Value → Shared → Prop} {s : Shared} (R : Rel c σ s) (F : FnAt c.g.K f fd body ps) (he : c.env.scope = fd.scope) (hx : (x, NameKind.globalImplicit) ∈ fd.scope.names)
    (hv : c.g.Has x v) (h : ∀ u, v.At u → Q u s) : wpAny (model c.g.prog c.g.w) A (eval (.Name x pos) c.env) Q E s := by
  have hk : c.env.kindOf x = some .globalImplicit := by show c.env.scope.names.lookup x = _; rw [he]; exact lookup_mem F.nd hx
  refine Name_function_global R.ok.fn hk ?_ (F.dbg _ hx)
  have g1 : s.heap.Ns c.env.globals c.g.mg := R.ok.glob ▸ R.ok.g.mg.keeps R.base
  have g2 : s.heap.Ns c.env.builtins c.g.mb := R.ok.bi ▸ R.ok.g.mb.keeps R.base
  rcases hv with ⟨u, hu, hv⟩ | ⟨hn, u, hu, hv⟩
  · exact loadGlobal_global g1 hu (h u hv)
  · exact loadGlobal_builtin g1 hn g2 hu (h u hv)
theorem s_raise {x text : Str} {np cpos sp pos : Pos} {k : Nat} {C : Addr} {fd : FuncData} {f : Addr} {body : List Stmt} {ps : List Str} {Q : Fl → St → Prop} (F : FnAt c.g.K f fd body ps) (he : c.env.scope = fd.scope) (hx : (x, NameKind.globalImplicit) ∈ fd.scope.names)
    (hv : c.g.Has x (.cst (.ref C))) (hC : ExcOk c.g.K C) (h : ∀ e s', Rel c { σ with led := (e, .exc C none) :: σ.led } s' → E (.ref e) s') :
    WS c E (.Raise (some (.Call (.Name x np) [.Constant (.str text) k sp] [] cpos)) none pos) σ Q := fun s R => by
  obtain ⟨d, hC', hN, hni, T⟩ := exc_obj R.K hC
  refine wpS_of (wpAny_Raise_call_subT (C := C) (nm := d.1) (q := d.2.1) (N := d.2.2.1) (bs := d.2.2.2.1) (bm := d.2.2.2.2.1) (hdct := d.2.2.2.2.2.1) (sn := d.2.2.2.2.2.2.1) (sub := d.2.2.2.2.2.2.2.1) (ab := d.2.2.2.2.2.2.2.2.1) (col := d.2.2.2.2.2.2.2.2.2.1) (dd := d.2.2.2.2.2.2.2.2.2.2.1)
    (k0 := d.2.2.2.2.2.2.2.2.2.2.2 0) (k1 := d.2.2.2.2.2.2.2.2.2.2.2 1) (k2 := d.2.2.2.2.2.2.2.2.2.2.2 2) (k3 := d.2.2.2.2.2.2.2.2.2.2.2 3) (k5 := d.2.2.2.2.2.2.2.2.2.2.2 5)
    PySem.F.excBase_Exception (mN := s.heap.nsMap d.2.2.1) (T.hasType PySem.F.excBase_Exception.hasBase) R.ok.room.2.2 rfl hni (name_gl R F he hx hv fun u hu => ⟨hu, ?_⟩))
  refine Calls.evalArgs_plain (Calls.spliced_cons (Constant_str (k := k) (pos := sp) (Calls.spliced_nil ?_)))
  refine ⟨rfl, Nat.le_of_ble_eq_true (by rw [sizeLine_eq]; rfl), hC', hN, T, fun h' e hm => ?_⟩
  obtain ⟨t, h1, h2, h3⟩ := hm.there
  refine h e _ (R.fresh (ob := .exc C none) hm.keeps (fun b hb => ?_) ?_ ⟨_, _, h1, rfl, rfl, rfl⟩)
  · rcases List.mem_cons.mp hb with rfl | hb
    · exact hm.new
    · cases hb
  · show [e].Nodup
    simp
theorem storeLocA {A : Around} {E : Value → Shared → Prop} {x : Str} {v : V} {u : Value} {loc' : List (Str × V)} {s : Shared} {Q : Unit → Shared → Prop} (R : Rel c σ s) (hv : v.At u) (U : SetV x v σ.loc loc') (q : ∀ s', Rel c { σ with loc := loc' } s' → Q () s') :
    wpAny (model c.g.prog c.g.w) A (storeName c.env x u) Q E s := by
  obtain ⟨m, hm, hx⟩ := R.loc
  have hk : c.env.kindOf x = some .local := by
    obtain ⟨p, hp, e⟩ := List.mem_map.mp U.hasKey
    rw [← e]; exact (R.kinds p hp).1
  refine wpAny_storeName_local hk hm (fun h' hn hs => q _ (R.setLoc hm hx hv U hn hs)) ?_
  rw [R.ok.fn]; rfl
noncomputable def Suite (c : Fx) (st : Stmt) (σ : St) (Q : Fl → St → Prop) : Prop := ∀ (A : Around) (s : Shared), Rel c σ s → wpAny (model c.g.prog c.g.w) A (execs [st] c.env) (fun f s' => ∃ fl σ'', Rel c σ'' s' ∧ fl.At f ∧ Q fl σ'') (fun _ _ => False) s
theorem suite_retb {b : Bool} {k : Nat} {p pos : Pos} {Q : Fl → St → Prop} (h : Q (.ret (.bool b)) σ) : Suite c (.Return (some (.Constant (.bool b) k p)) pos) σ Q := fun A s R => by
  rw [execs_cons, exec_Return_some]
  refine wpAny_bind (wpAny_bind (wpAny_standAt (wpAny_bind ?_)))
  show wpAny _ _ (pure (Value.bool b)) _ _ _
  refine wpAny_pure (wpAny_pure (wpAny_pure ⟨.ret (.bool b), σ, R, ⟨_, rfl, rfl⟩, h⟩))
theorem suite_setb {x : Str} {p pos cp : Pos} {b : Bool} {k : Nat} {loc' : List (Str × V)} {Q : Fl → St → Prop} (U : SetV x (.bool b) σ.loc loc') (h : Q .next { σ with loc := loc' })
    (hs : swapsWith (.Constant (.bool b) k cp) (some (.Name x p)) pos.line c.env = pure false) : Suite c (.Assign [.Name x p] (.Constant (.bool b) k cp) pos) σ Q := fun A s R => by
  rw [execs_cons, exec_Assign_Name c.env x p _ pos hs]
  refine wpAny_bind (wpAny_bind (wpAny_standAt (wpAny_bind ?_)))
  show wpAny _ _ (pure (Value.bool b)) _ _ _
  refine wpAny_pure (wpAny_bind (wpAny_standAt (wpAny_bind (wpAny_bindName (storeLocA R (v := .bool b) rfl U fun s' R' => ?_)))))
  exact wpAny_pure (wpAny_execs_nil ⟨.next, _, R', rfl, h⟩)
theorem s_try_catch {body orelse : List Stmt} {x : Str} {np hp pos : Pos} {st : Stmt} {C : Addr} {fd : FuncData} {f : Addr} {bd : List Stmt} {ps : List Str} {Q : Fl → St → Prop} {Y : St → Prop} (F : FnAt c.g.K f fd bd ps) (he : c.env.scope = fd.scope)
    (hx : (x, NameKind.globalImplicit) ∈ fd.scope.names) (hv : c.g.Has x (.cst (.ref C))) (hC : ExcOk c.g.K C) (hown : c.own = true)
    (h : WSs c (Ey c fun C' σ' => C' = C ∧ Y σ') body σ (fun fl σ' => match fl with | .next => WSs c E orelse σ' Q | fl => Q fl σ'))
    (k : ∀ σ' e t, Y σ' → Suite c st { σ' with led := (e, .exc C t) :: σ'.led } Q) :
    WS c E (.Try body [.ExceptHandler (some (.Name x np)) none [st] hp] orelse [] pos) σ Q := fun s R => by
  rw [arm_exec_Try]
  refine wpS_bind (wpS_standAt ?_)
  unfold tryStmt
  dsimp only [List.isEmpty_nil]
  rw [if_pos rfl]
  refine wpS_bind (wpS_attempt (wpS_mono (h s R) (fun f s' ⟨fl, σ', R', hf, q⟩ => ?_) fun x s' ⟨C', σ', ⟨e, t, hx', R'⟩, e', hy⟩ => ?_))
  · cases fl with
    | next => cases hf; exact q s' R'
    | brk => cases hf; exact wpS_pure (⟨.brk, σ', R', rfl, q⟩)
    | cont => cases hf; exact wpS_pure (⟨.cont, σ', R', rfl, q⟩)
    | ret v => obtain ⟨u, rfl, hu⟩ := hf; exact wpS_pure (⟨.ret v, σ', R', ⟨u, rfl, hu⟩, q⟩)
  · subst hx'; subst e'
    dsimp only
    refine wpS_of (wpAny_bind (noteS R' hown R'.ok.A fun h₁ T R₁ => ?_))
    simp only [List.isEmpty_cons, Bool.false_eq_true, if_false, Bool.false_and]
    refine wpAny_bind (setFlightS R₁ fun h₂ t₂ R₂ _ => ?_)
    refine wpAny_handleBy_cons (codeAny_handlers_test (name_gl R₂ F he hx hv fun u hu => ?_)) (by intro z; cases z)
    rw [show u = .ref C' from hu]
    obtain ⟨d, hC', hN, hni, TL⟩ := exc_obj R₂.K hC
    have hob : ∃ oe, h₂.get? e = some oe ∧ oe.cls = .ref C' := by
      cases t₂ with
      | none => obtain ⟨o, vs, e1, e2, _⟩ := R₂.led _ (.head _); exact ⟨o, e1, e2⟩
      | some p => obtain ⟨T, v⟩ := p; obtain ⟨o, vs, oT, ts, e1, e2, _⟩ := R₂.led _ (.head _); exact ⟨o, e1, e2⟩
    obtain ⟨oe, ho, hoc⟩ := hob
    refine wpAny_excMatches_sub_self hC' ho hoc (TL.hasType PySem.F.excBase_Exception.hasBase) (codeAny_handlers_suite ?_)
    refine setFlightS R₂ fun h₃ t₃ R₃ _ => ?_
    exact wpAny_mono (k σ' e t₃ hy _ _ R₃) (fun f s₄ z => z) fun _ _ z => z.elim
noncomputable def En (c : Fx) (P : Addr → St → Prop) (x : Value) (s : Shared) : Prop := ∃ (C : Addr) (σ' : St) (e T : Addr) (v : Value), x = .ref e ∧ Rel c { σ' with led := (e, .exc C (some (T, v))) :: σ'.led } s ∧ P C σ'
theorem ey_noted {M : Model} {E : Value → Shared → Prop} {P : Addr → St → Prop} {x : Value} {s : Shared} (hown : c.own = true) (h : Ey c P x s) : wpAny M c.A (do noteFrame x c.env; theTreesLotGoes x) (fun _ s' => En c P x s') E s := by
  obtain ⟨C, σ', ⟨e, t, rfl, R⟩, hp⟩ := h
  exact wpAny_bind (noteS R hown R.ok.A fun h' T R' => wpAny_theTreesLotGoes ⟨C, σ', e, T, _, rfl, R', hp⟩)
theorem en_back {M : Model} {E : Value → Shared → Prop} {P : Addr → St → Prop} {x : Value} {s : Shared} (h : En c P x s) : wpAny M c.A (do
    if (← field x 1) == .none then unsupported "frame.own-activation:exception-without-traceback"
    setFlight x c.env.frame) (fun _ s' => Ey c P x s') E s := by
  obtain ⟨C, σ', e, T, v, rfl, R, hp⟩ := h
  obtain ⟨o, vs, oT, ts, e1, e2, e3, e4, e5, e6, e7⟩ := R.led _ (.head _)
  refine wpAny_bind (wpAny_field e1 e3 e4 ?_)
  rw [if_neg (show ¬ (Value.ref T == Value.none) = true by simp)]
  exact setFlightS R fun h' t' R' _ => ⟨C, σ', ⟨e, t', rfl, R'⟩, hp⟩
theorem for_coreX {x : Str} {px : Pos} {body : List Stmt} {it : Addr} {ob : Nat → Ob} {n : Nat} {item : Nat → V} {P : Led → Prop} {Y : Addr → St → Prop} (hown : c.own = true) (T : Itr c it ob n item P) {Q : Fl → St → Prop} (I : Nat → St → Prop) (hP : ∀ k σ', I k σ' → P σ'.led)
    (turn : ∀ k σ', k < n → I k σ' → ∃ loc', SetV x (item k) σ'.loc loc' ∧ WSs c (Ey c Y) body ⟨loc', σ'.glo, σ'.cel, (it, ob (k + 1)) :: σ'.led⟩ (fun fl σ'' => match fl with
      | .next | .cont => ∃ led', Sub σ''.led ((it, ob (k + 1)) :: led') ∧ I (k + 1) { σ'' with led := led' }
      | .brk => Q .next σ''
      | .ret v => Q (.ret v) σ''))
    (fin : ∀ σ', I n σ' → Q .next σ') {s : Shared} (h0 : I 0 σ) (R : Rel c { σ with led := (it, ob 0) :: σ.led } s) :
    wpS (model c.g.prog c.g.w) c.A (runOwn (.forLoop (.Name x px) (.ref it) body [] c.env) c.env) (fun f s' => ∃ fl σ', Rel c σ' s' ∧ fl.At f ∧ Q fl σ') (Ey c Y) s := by
  unfold runOwn
  refine wpS_onRaise (wpS_run ?_)
  rw [show c.A.mark none = c.A from rfl]
  refine codeS_mono (R := fun r s' => match r with | .ok f => ∃ fl σ', Rel c σ' s' ∧ fl.At f ∧ Q fl σ' | .error e => En c Y e s') ?_ (fun r s' h => by
    cases r with
    | ok f => exact h
    | error e => exact wpS_of (en_back h))
  refine codeS_loop' rfl rfl (fun m s' => ∃ k σ', m + k = n ∧ I k σ' ∧ Rel c { σ' with led := (it, ob k) :: σ'.led } s') (fun m s' zq => ?_) n ⟨0, σ, rfl, h0, R⟩
  obtain ⟨k, σ', hk, hI, R'⟩ := zq
  show wpS _ c.A ((forTurn (.Name x px) (.ref it) body [] c.env).onRaise (fun x => do noteFrame x c.env; theTreesLotGoes x)) _ _ s'
  refine wpS_onRaise (wpS_mono (Q := fun fin s' => match fin with
    | .done f => ∃ fl σ', Rel c σ' s' ∧ fl.At f ∧ Q fl σ'
    | .again c' => (c' = .forLoop (.Name x px) (.ref it) body [] c.env ∧ ∃ m', m' < m ∧ ∃ k σ', m' + k = n ∧ I k σ' ∧ Rel c { σ' with led := (it, ob k) :: σ'.led } s') ∨
        (c' = .block [] c.env ∧ ∃ fl σ', Rel c σ' s' ∧ fl.At .next ∧ Q fl σ')) (E := Ey c Y) ?_ (fun fin s' z => ?_) fun _ _ z => wpS_of (ey_noted hown z))
  · simp only [forTurn]
    refine wpS_bind (wpS_standAt ?_)
    by_cases hlt : k < n
    · refine wpS_bind (wpS_onRaise (wpS_of (wpAny_mono (T.1 k hlt { σ' with led := (it, ob k) :: σ'.led } σ'.led s' rfl (hP k σ' hI) R' (fun _ _ => False)) (fun r s₁ zq => ?_) fun _ _ z => z.elim)))
      obtain ⟨u, hr, hu, R₁⟩ := zq
      subst hr
      refine wpS_bind (wpS_of_eq (a := ()) rfl ?_)
      obtain ⟨loc', S, hb⟩ := turn k σ' hlt hI
      refine wpS_bind ?_
      show wpS _ _ (standAt px >>= fun _ => bindName c.env x u) _ _ _
      refine wpS_bind (wpS_standAt (wpS_of (wpAny_bindName (storeLoc R₁ hu S fun s₂ R₂ => ?_))))
      refine wpS_bind (wpS_mono (hb s₂ R₂) (fun f s₃ zq => ?_) fun _ _ z => z)
      obtain ⟨fl, σ'', R₃, hf, q⟩ := zq
      have again : (∃ led', Sub σ''.led ((it, ob (k + 1)) :: led') ∧ I (k + 1) { σ'' with led := led' }) → ∃ m', m' < m ∧ ∃ k σ', m' + k = n ∧ I k σ' ∧ Rel c { σ' with led := (it, ob k) :: σ'.led } s₃ :=
        fun ⟨led', hs, hI'⟩ => ⟨m - 1, by walk_at "o", k + 1, _, by walk_at "o", hI', R₃.sub hs⟩
      cases fl with
      | next => cases hf; exact wpS_pure (.inl ⟨rfl, again q⟩)
      | cont => cases hf; exact wpS_pure (.inl ⟨rfl, again q⟩)
      | brk => cases hf; exact wpS_pure ⟨.next, σ'', R₃, rfl, q⟩
      | ret v => obtain ⟨u, rfl, hu⟩ := hf; exact wpS_pure ⟨.ret v, σ'', R₃, ⟨u, rfl, hu⟩, q⟩
    · have hkn : k = n := by walk_at "o"
      subst hkn
      refine wpS_bind (wpS_onRaise (wpS_of (wpAny_mono (T.2 { σ' with led := (it, ob k) :: σ'.led } σ'.led s' rfl (hP k σ' hI) R' (fun _ _ => False)) (fun r s₁ zq => ?_) fun _ _ z => z.elim)))
      obtain ⟨hr, R₁⟩ := zq
      subst hr
      exact wpS_pure (.inr ⟨rfl, .next, σ', R₁, rfl, fin _ hI⟩)
  · cases fin with
    | done f => exact z
    | again c' =>
      rcases z with ⟨e, m', hm, z⟩ | ⟨e, z⟩
      · exact .inl ⟨e, m', hm, z⟩
      · subst e
        exact .inr ⟨rfl, codeS_of (codeAny_block (wpAny_execs_nil z))⟩
theorem s_for_rangeX {x : Str} {px pos : Pos} {iter : Expr} {body : List Stmt} {Q : Fl → St → Prop} {Y : Addr → St → Prop} (hown : c.own = true) (I : Nat → St → Prop) (n : Nat) (hi : ∀ x, foldedSetIterable iter c.env x = pure x) (hz : (n : Int) < 2 ^ 62)
    (h : WE c (Ey c Y) iter σ (fun v σ₁ => ∃ r l, v = .cst (.ref r) ∧ σ₁.led = (r, .rng 0 n) :: l ∧ I 0 { σ₁ with led := l }))
    (turn : ∀ k σ' it, k < n → I k σ' → ∃ loc', SetV x (.int k) σ'.loc loc' ∧ WSs c (Ey c Y) body ⟨loc', σ'.glo, σ'.cel, (it, .rit ((k : Int) + 1) ((n : Int) - k - 1)) :: σ'.led⟩ (fun fl σ'' => match fl with
      | .next | .cont => ∃ led', Sub σ''.led ((it, .rit ((k : Int) + 1) ((n : Int) - k - 1)) :: led') ∧ I (k + 1) { σ'' with led := led' }
      | .brk => Q .next σ''
      | .ret v => Q (.ret v) σ''))
    (fin : ∀ σ', I n σ' → Q .next σ') : WS c (Ey c Y) (.For (.Name x px) iter body [] pos) σ Q := fun s R => by
  rw [arm_exec_For]
  refine wpS_bind (wpS_standAt (wpS_bind (wpS_mono (h s R) (fun u s₁ zq => ?_) fun _ _ z => z)))
  obtain ⟨v, σ₁, R₁, hv, r, l, e, hl, hI⟩ := zq
  rw [hi]
  refine wpS_bind (wpS_pure (wpS_bind (wpS_standAt ?_)))
  subst e
  rw [show u = .ref r from hv]
  obtain ⟨t, t1, t2, hr⟩ := R₁.led (r, _) (by rw [hl]; exact .head _)
  refine wpS_bind (wpS_holding (wpS_of (wpAny_pyIter_range hr (small_one (by decide) (by decide) (by walk_at "o") (by walk_at "o")) ?_)))
  have hsz : Builtin.Range.rangeSize 0 n 1 = (n : Int) := by rw [rangeSize_one]; split <;> (walk_at "o")
  rw [hsz]
  have R₂ := R₁.push (t := s₁.toks) (o := { cls := .type "range_iterator", data := .fields #[rawInt 0, rawInt n, rawInt 1] }) (ob := .rit 0 n) rfl (Heap.get?_push_size _ rfl)
  have R₃ := R₂.sub (led' := (s₁.heap.objs.size, .rit 0 n) :: l) (by rw [hl]; exact .cons (.skip (.refl _)))
  have T : Itr c s₁.heap.objs.size (fun k => .rit (0 + k) ((n : Int) - k)) n (fun k => .int (0 + k)) (fun _ => True) := itr_range R₁.ok.room.2.2
  refine for_coreX (σ := { σ₁ with led := l }) hown T I (fun _ _ _ => trivial) (fun k σ' hk hI' => ?_) fin hI ?_
  · obtain ⟨loc', S, hb⟩ := turn k σ' s₁.heap.objs.size hk hI'
    have e0 : (0 : Int) + (k : Int) = k := by walk_at "o"
    have e1 : (0 : Int) + ((k + 1 : Nat) : Int) = k + 1 := by walk_at "o"
    have e2 : (n : Int) - ((k + 1 : Nat) : Int) = n - k - 1 := by walk_at "o"
    refine ⟨loc', by rw [e0]; exact S, ?_⟩
    simp only [e1, e2]
    exact hb
  · show Rel c { σ₁ with led := (_, Ob.rit (0 + ((0 : Nat) : Int)) ((n : Int) - ((0 : Nat) : Int))) :: l } _
    rw [show (0 : Int) + ((0 : Nat) : Int) = 0 by walk_at "o", show (n : Int) - ((0 : Nat) : Int) = n by walk_at "o"]
    exact R₃
end
section
variable {c : Fx} {E : Value → Shared → Prop} {σ : St}
noncomputable def StoreTo (c : Fx) (x : Str) (v : V) (σ σ₂ : St) : Prop := ∀ (s : Shared) (u : Value) (Q : Unit → Shared → Prop) (E : Value → Shared → Prop), Rel c σ s → v.At u → (∀ s', Rel c σ₂ s' → Q () s') → wpAny (model c.g.prog c.g.w) c.A (storeName c.env x u) Q E s
theorem storeTo_loc {x : Str} {v : V} {loc' : List (Str × V)} (U : SetV x v σ.loc loc') : StoreTo c x v σ { σ with loc := loc' } := fun s u Q E R hv q => storeLoc R hv U q
theorem storeTo_cel {x : Str} {v old : V} {a : Addr} {led' : Led} (hk : c.env.kindOf x = some .cell) (hx : (x, a) ∈ σ.cel) (U : Upd a (.cell old) (.cell v) σ.led led') : StoreTo c x v σ { σ with led := led' } := fun s u Q E R hv q => by
  obtain ⟨_, hd, hl⟩ := R.cel _ hx
  obtain ⟨w, hc, hw⟩ := R.led _ U.mem
  refine wpAny_storeName_cell R.ok.fn hk hl hc fun h' hc' hs => q _ ?_
  exact R.upd (t := s.toks) U rfl (.head _) (fun d ob hd' e => (hs.2 d hd').trans e) ⟨some u, hc', V.at_loc hv⟩
noncomputable abbrev KAsgT (c : Fx) (x : Str) (Q : Fl → St → Prop) : V → St → Prop := fun v σ' => ∃ σ₂, StoreTo c x v σ' σ₂ ∧ Q .next σ₂
theorem s_assignT {x : Str} {p pos : Pos} {value : Expr} {Q : Fl → St → Prop} (h : WE c E value σ (KAsgT c x Q))
    (hs : swapsWith value (some (.Name x p)) pos.line c.env = pure false) : WS c E (.Assign [.Name x p] value pos) σ Q := fun s R => by
  rw [exec_Assign_Name c.env x p value pos hs]
  refine wpS_bind (wpS_standAt (wpS_bind (wpS_mono (h s R) (fun u s' zq => ?_) fun _ _ y => y)))
  obtain ⟨v, σ', R', hv, σ₂, S, q⟩ := zq
  exact wpS_bind (wpS_standAt (wpS_bindL (wpAny_bindName (S _ _ _ _ R' hv fun s'' R'' => wpS_pure ⟨.next, _, R'', rfl, q⟩))))
noncomputable def Src (c : Fx) (v : V) (σ₁ : St) (n : Nat) (item : Nat → V) (led : Led) : Prop :=
  ∀ (s : Shared) (u : Value) (Q : Value → Shared → Prop) (E : Value → Shared → Prop), Rel c σ₁ s → v.At u →
    (∀ s' it (ob : Nat → Ob), Rel c { σ₁ with led := (it, ob 0) :: led } s' → (∀ c' : Fx, c'.A.handled = none → Itr c' it ob n item (fun l => ∀ p ∈ led, p ∈ l)) →
      (∀ (c' : Fx) (σ' : St) (s : Shared) (Q : Value → Shared → Prop) (E : Value → Shared → Prop), (it, ob 0) ∈ σ'.led → Rel c' σ' s → Q (.ref it) s → wpAny (model c'.g.prog c'.g.w) c'.A (pyIter (.ref it)) Q E s) → Q (.ref it) s') →
    wpAny (model c.g.prog c.g.w) c.A (pyIter u) Q E s
theorem Itr.mono {it : Addr} {ob : Nat → Ob} {n : Nat} {item : Nat → V} {P P' : Led → Prop} (T : Itr c it ob n item P) (k : ∀ l, P' l → P l) : Itr c it ob n item P' :=
  ⟨fun i hi σ l s hl hp R E => T.1 i hi σ l s hl (k l hp) R E, fun σ l s hl hp R E => T.2 σ l s hl (k l hp) R E⟩
theorem src_list {l : Addr} {xs : List V} (hm : (l, Ob.list xs) ∈ σ.led) : Src c (.cst (.ref l)) σ xs.length (fun k => xs.getD k .none) σ.led := fun s u Q E R hu q => by
  rw [show u = .ref l from hu]
  obtain ⟨us, n, hl, hus⟩ := R.led _ hm
  refine wpAny_pyIter_list (isList_of hl) ?_
  have R₂ := R.push (t := s.toks) (o := { cls := .type "list_iterator", data := .fields #[.ref l, .int 0 0] }) (ob := .lit l 0) rfl ⟨_, Heap.get?_push_size _ rfl, rfl, rfl⟩
  refine q _ _ (fun k => .lit l k) R₂ (fun c' hh => (itr_list hh).mono fun l' hl' => hl' _ hm) fun c' σ' s' Q' E' hm' R' h => ?_
  have hit : s'.heap.IsListIter s.heap.objs.size l 0 := R'.led _ hm'
  exact wpAny_pyIter_listiter hit h
theorem src_range {r : Addr} {n : Nat} {led : Led} (hl : σ.led = (r, .rng 0 n) :: led) (hz : (n : Int) < 2 ^ 62) : Src c (.cst (.ref r)) σ n (fun k => .int k) led := fun s u Q E R hu q => by
  rw [show u = .ref r from hu]
  obtain ⟨t, t1, t2, hr⟩ := R.led (r, _) (by rw [hl]; exact .head _)
  refine wpAny_pyIter_range hr (small_one (by decide) (by decide) (by walk_at "o") (by walk_at "o")) ?_
  have hsz : Builtin.Range.rangeSize 0 n 1 = (n : Int) := by rw [rangeSize_one]; split <;> (walk_at "o")
  rw [hsz]
  have R₂ := R.push (t := s.toks) (o := { cls := .type "range_iterator", data := .fields #[rawInt 0, rawInt n, rawInt 1] }) (ob := .rit 0 n) rfl (Heap.get?_push_size _ rfl)
  have R₃ := R₂.sub (led' := (s.heap.objs.size, .rit 0 n) :: led) (by rw [hl]; exact .cons (.skip (.refl _)))
  have e : ∀ k : Nat, (0 : Int) + (k : Int) = k := fun k => by walk_at "o"
  refine q _ _ (fun k => .rit (0 + k) ((n : Int) - k)) ?_ (fun c' hh => ?_) fun c' σ' s' Q' E' hm' R' h => ?_
  · show Rel c { σ with led := (_, Ob.rit (0 + ((0 : Nat) : Int)) ((n : Int) - ((0 : Nat) : Int))) :: led } _
    rw [show (0 : Int) + ((0 : Nat) : Int) = 0 by walk_at "o", show (n : Int) - ((0 : Nat) : Int) = n by walk_at "o"]
    exact R₃
  · have T : Itr c' s.heap.objs.size (fun k => .rit (0 + k) ((n : Int) - k)) n (fun k => .int (0 + k)) (fun _ => True) := itr_range hh
    simp only [e] at T ⊢
    exact T.mono fun _ _ => trivial
  · have hit : IsRangeIter s'.heap s.heap.objs.size (0 + ((0 : Nat) : Int)) ((n : Int) - ((0 : Nat) : Int)) 1 := R'.led _ hm'
    exact wpAny_pyIter_rangeiter hit h
theorem for_coreG {x : Str} {px : Pos} {body : List Stmt} {it : Addr} {ob : Nat → Ob} {n : Nat} {item : Nat → V} {P : Led → Prop} (T : Itr c it ob n item P) {Q : Fl → St → Prop} (I : Nat → St → Prop) (hP : ∀ k σ', I k σ' → P σ'.led)
    (turn : ∀ k σ', k < n → I k σ' → ∃ σ₂, StoreTo c x (item k) { σ' with led := (it, ob (k + 1)) :: σ'.led } σ₂ ∧ WSs c (fun _ _ => False) body σ₂ (fun fl σ'' => match fl with
      | .next | .cont => ∃ led', Sub σ''.led ((it, ob (k + 1)) :: led') ∧ I (k + 1) { σ'' with led := led' }
      | .brk => Q .next σ''
      | .ret v => Q (.ret v) σ''))
    (fin : ∀ σ', I n σ' → Q .next σ') {s : Shared} (h0 : I 0 σ) (R : Rel c { σ with led := (it, ob 0) :: σ.led } s) :
    wpS (model c.g.prog c.g.w) c.A (runOwn (.forLoop (.Name x px) (.ref it) body [] c.env) c.env) (fun f s' => ∃ fl σ', Rel c σ' s' ∧ fl.At f ∧ Q fl σ') E s := by
  unfold runOwn
  refine wpS_onRaise (wpS_run ?_)
  rw [show c.A.mark none = c.A from rfl]
  refine codeS_loop' rfl rfl (fun m s' => ∃ k σ', m + k = n ∧ I k σ' ∧ Rel c { σ' with led := (it, ob k) :: σ'.led } s') (fun m s' zq => ?_) n ⟨0, σ, rfl, h0, R⟩
  obtain ⟨k, σ', hk, hI, R'⟩ := zq
  show wpS _ c.A ((forTurn (.Name x px) (.ref it) body [] c.env).onRaise (fun x => do noteFrame x c.env; theTreesLotGoes x)) _ _ s'
  refine wpS_onRaise (wpS_mono (Q := fun fin s' => match fin with
    | .done f => ∃ fl σ', Rel c σ' s' ∧ fl.At f ∧ Q fl σ'
    | .again c' => (c' = .forLoop (.Name x px) (.ref it) body [] c.env ∧ ∃ m', m' < m ∧ ∃ k σ', m' + k = n ∧ I k σ' ∧ Rel c { σ' with led := (it, ob k) :: σ'.led } s') ∨
        (c' = .block [] c.env ∧ ∃ fl σ', Rel c σ' s' ∧ fl.At .next ∧ Q fl σ')) (E := fun _ _ => False) ?_ (fun fin s' z => ?_) fun _ _ z => z.elim)
  · simp only [forTurn]
    refine wpS_bind (wpS_standAt ?_)
    by_cases hlt : k < n
    · refine wpS_bind (wpS_onRaise (wpS_of (wpAny_mono (T.1 k hlt { σ' with led := (it, ob k) :: σ'.led } σ'.led s' rfl (hP k σ' hI) R' (fun _ _ => False)) (fun r s₁ zq => ?_) fun _ _ z => z.elim)))
      obtain ⟨u, hr, hu, R₁⟩ := zq
      subst hr
      refine wpS_bind (wpS_of_eq (a := ()) rfl ?_)
      obtain ⟨σ₂, S, hb⟩ := turn k σ' hlt hI
      refine wpS_bind ?_
      show wpS _ _ (standAt px >>= fun _ => bindName c.env x u) _ _ _
      refine wpS_bind (wpS_standAt (wpS_of (wpAny_bindName (S _ _ _ _ R₁ hu fun s₂ R₂ => ?_))))
      refine wpS_bind (wpS_mono (hb s₂ R₂) (fun f s₃ zq => ?_) fun _ _ z => z)
      obtain ⟨fl, σ'', R₃, hf, q⟩ := zq
      have again : (∃ led', Sub σ''.led ((it, ob (k + 1)) :: led') ∧ I (k + 1) { σ'' with led := led' }) → ∃ m', m' < m ∧ ∃ k σ', m' + k = n ∧ I k σ' ∧ Rel c { σ' with led := (it, ob k) :: σ'.led } s₃ :=
        fun ⟨led', hs, hI'⟩ => ⟨m - 1, by walk_at "o", k + 1, _, by walk_at "o", hI', R₃.sub hs⟩
      cases fl with
      | next => cases hf; exact wpS_pure (.inl ⟨rfl, again q⟩)
      | cont => cases hf; exact wpS_pure (.inl ⟨rfl, again q⟩)
      | brk => cases hf; exact wpS_pure ⟨.next, σ'', R₃, rfl, q⟩
      | ret v => obtain ⟨u, rfl, hu⟩ := hf; exact wpS_pure ⟨.ret v, σ'', R₃, ⟨u, rfl, hu⟩, q⟩
    · have hkn : k = n := by walk_at "o"
      subst hkn
      refine wpS_bind (wpS_onRaise (wpS_of (wpAny_mono (T.2 { σ' with led := (it, ob k) :: σ'.led } σ'.led s' rfl (hP k σ' hI) R' (fun _ _ => False)) (fun r s₁ zq => ?_) fun _ _ z => z.elim)))
      obtain ⟨hr, R₁⟩ := zq
      subst hr
      exact wpS_pure (.inr ⟨rfl, .next, σ', R₁, rfl, fin _ hI⟩)
  · cases fin with
    | done f => exact z
    | again c' =>
      rcases z with ⟨e, m', hm, z⟩ | ⟨e, z⟩
      · exact .inl ⟨e, m', hm, z⟩
      · subst e
        exact .inr ⟨rfl, codeS_of (codeAny_block (wpAny_execs_nil z))⟩
theorem s_forG {x : Str} {px pos : Pos} {iter : Expr} {body : List Stmt} {Q : Fl → St → Prop} (hi : ∀ x, foldedSetIterable iter c.env x = pure x)
    (h : WE c E iter σ (fun v σ₁ => ∃ n item led, Src c v σ₁ n item led ∧ ∃ I : Nat → St → Prop, I 0 { σ₁ with led := led } ∧ (∀ k σ', I k σ' → ∀ p ∈ led, p ∈ σ'.led) ∧
      (∀ k σ' it ob, k < n → I k σ' → ∃ σ₂, StoreTo c x (item k) { σ' with led := (it, ob) :: σ'.led } σ₂ ∧ WSs c (fun _ _ => False) body σ₂ (KTurn it ob k I Q)) ∧
      (∀ σ', I n σ' → Q .next σ'))) : WS c E (.For (.Name x px) iter body [] pos) σ Q := fun s R => by
  rw [arm_exec_For]
  refine wpS_bind (wpS_standAt (wpS_bind (wpS_mono (h s R) (fun u s₁ zq => ?_) fun _ _ z => z)))
  obtain ⟨v, σ₁, R₁, hv, n, item, led, S, I, h0, hP, turn, fin⟩ := zq
  rw [hi]
  refine wpS_bind (wpS_pure (wpS_bind (wpS_standAt ?_)))
  refine wpS_bind (wpS_holding (wpS_of (S s₁ u _ _ R₁ hv fun s₂ it ob R₂ T _ => ?_)))
  exact for_coreG (σ := { σ₁ with led := led }) (T c R₁.ok.room.2.2) I hP (fun k σ' hk hI => turn k σ' it _ hk hI) fin h0 R₂
theorem s_forR {x : Str} {px pos : Pos} {iter : Expr} {body : List Stmt} {Q : Fl → St → Prop} (hi : ∀ x, foldedSetIterable iter c.env x = pure x) (n : Nat) (hz : (n : Int) < 2 ^ 62) (I : Nat → St → Prop)
    (h : WE c E iter σ (KRng n I))
    (turn : ∀ k σ' it ob, k < n → I k σ' → ∃ σ₂, StoreTo c x (.int k) { σ' with led := (it, ob) :: σ'.led } σ₂ ∧ WSs c (fun _ _ => False) body σ₂ (KTurn it ob k I Q))
    (fin : ∀ σ', I n σ' → Q .next σ') : WS c E (.For (.Name x px) iter body [] pos) σ Q := fun s R => by
  rw [arm_exec_For]
  refine wpS_bind (wpS_standAt (wpS_bind (wpS_mono (h s R) (fun u s₁ zq => ?_) fun _ _ z => z)))
  obtain ⟨v, σ₁, R₁, hv, r, l, e, hl, hI⟩ := zq
  rw [hi]
  refine wpS_bind (wpS_pure (wpS_bind (wpS_standAt ?_)))
  subst e
  rw [show u = .ref r from hv]
  obtain ⟨t, t1, t2, hr⟩ := R₁.led (r, _) (by rw [hl]; exact .head _)
  refine wpS_bind (wpS_holding (wpS_of (wpAny_pyIter_range hr (small_one (by decide) (by decide) (by walk_at "o") (by walk_at "o")) ?_)))
  have hsz : Builtin.Range.rangeSize 0 n 1 = (n : Int) := by rw [rangeSize_one]; split <;> (walk_at "o")
  rw [hsz]
  have R₂ := R₁.push (t := s₁.toks) (o := { cls := .type "range_iterator", data := .fields #[rawInt 0, rawInt n, rawInt 1] }) (ob := .rit 0 n) rfl (Heap.get?_push_size _ rfl)
  have R₃ := R₂.sub (led' := (s₁.heap.objs.size, .rit 0 n) :: l) (by rw [hl]; exact .cons (.skip (.refl _)))
  have T : Itr c s₁.heap.objs.size (fun k => .rit (0 + k) ((n : Int) - k)) n (fun k => .int (0 + k)) (fun _ => True) := itr_range R₁.ok.room.2.2
  refine for_coreG (σ := { σ₁ with led := l }) T I (fun _ _ _ => trivial) (fun k σ' hk hI' => ?_) fin hI ?_
  · obtain ⟨σ₂, S, hb⟩ := turn k σ' s₁.heap.objs.size (.rit (0 + ((k + 1 : Nat) : Int)) ((n : Int) - ((k + 1 : Nat) : Int))) hk hI'
    refine ⟨σ₂, ?_, hb⟩
    rw [show (0 : Int) + (k : Int) = k by walk_at "o"]; exact S
  · show Rel c { σ₁ with led := (_, Ob.rit (0 + ((0 : Nat) : Int)) ((n : Int) - ((0 : Nat) : Int))) :: l } _
    rw [show (0 : Int) + ((0 : Nat) : Int) = 0 by walk_at "o", show (n : Int) - ((0 : Nat) : Int) = n by walk_at "o"]
    exact R₃
theorem o_mulL {a : Addr} {xs : List V} {n : Int} {Q : V → St → Prop} (ha : (a, Ob.list xs) ∈ σ.led) (h0 : 0 ≤ n) (hz : xs.length * n.toNat ≤ 256) (hn : n ≤ 1000) (q : ∀ b, Q (.cst (.ref b)) { σ with led := (b, .list (List.replicate n.toNat xs).flatten) :: σ.led }) :
    BO c E .Mult (.cst (.ref a)) (.int n) σ Q := fun u v hu hv s R => by
  obtain ⟨t, rfl⟩ := hv
  rw [show u = .ref a from hu]
  obtain ⟨us, k, hl, hus⟩ := R.led _ ha
  have hlen := atAll_length hus
  have hsz : us.toArray.size * n.toNat ≤ 2 ^ 24 := by rw [List.size_toArray, hlen]; (walk_at "o")
  have hat : ∀ m : Nat, AtAll (List.replicate m xs).flatten (List.replicate m us).flatten := fun m => by
    induction m with
    | zero => trivial
    | succ m ih => rw [List.replicate_succ, List.replicate_succ, List.flatten_cons, List.flatten_cons]; exact atAll_append hus ih
  refine wpS_of (wpAny_binaryOp_repeat_ref (T := "list") (U := "int") (by decide) ⟨_, hl, rfl⟩ (fun s' => typeIs_int s' n t) noFill_list_mul F.fills_int_mul F.slot_int_rmul repeat_list F.slot_int_index.lookup
    (call_meets F.slot_int_rmul (typeIs_int s n t) F.entry_int_rmul (F.args_int_rmul_2 _ _) (int___rmul___int_list n t a us.toArray k)
      ⟨hl, rfl, ⟨_, hl, rfl⟩, call_meets F.slot_list_mul ⟨_, hl, rfl⟩ F.entry_list_mul (F.args_list_mul_2 _ _)
        (AutoListH.list___mul___list_int_3 a us.toArray k n t (by simp [Builtin.List.listFitsIndex]; (walk_at "o")) (by walk_at "o") (by simp [Builtin.List.listTooLong, sizeLine]; (walk_at "o")))
        ⟨hl, ?_⟩⟩))
  rw [listMul_foldl_if]
  exact ⟨.cst (.ref _), _, R.push (t := s.toks) (ob := .list (List.replicate n.toNat xs).flatten) rfl ⟨(List.replicate n.toNat us).flatten, 0, by rw [Heap.get?_push_size _ rfl], hat _⟩, rfl, q _⟩
theorem call_maxL {a : Addr} {ns : List Int} {Q : V → St → Prop} (ha : (a, Ob.list (intsV ns)) ∈ σ.led) (hne : ns ≠ []) (q : ∀ M, M ∈ ns → (∀ b ∈ ns, b ≤ M) → Q (.int M) σ) : CallO c E (.builtin "max") [.cst (.ref a)] σ Q := fun vs hvs s R => by
  obtain ⟨u, rfl, hu⟩ := at1 hvs
  rw [show u = .ref a from hu]
  obtain ⟨us, k, hl, hus⟩ := R.led _ ha
  have hi := intsAre_of hus
  obtain ⟨xs, hxs⟩ := hi.allInts.items
  have hn : numsOf us = ns := hi.numsOf
  have hl' : s.heap.IsList a (intItems xs) := hxs ▸ isList_of hl
  have hnn : (xs.toList.map (·.1)) = ns := by rw [← hn, ← nums_intItems, ← hxs]
  have hsz : 0 < xs.size := by
    rcases Nat.eq_zero_or_pos xs.size with z | z
    · exfalso
      apply hne
      rw [← hnn]
      have : xs = #[] := Array.eq_empty_of_size_eq_zero z
      rw [this]; rfl
    · exact z
  refine wpS_of (max_intList R.ok.room.2.2 hl' hsz fun v h' tk hv hk => ?_)
  obtain ⟨t, rfl⟩ := intItems_at hv
  obtain ⟨h1, h2⟩ := argBest_gt (numAt xs) (xs.size - 1)
  refine ⟨.int _, σ, R.keeps hk, ⟨t, rfl⟩, q _ ?_ fun b hb => ?_⟩
  · rw [← hnn, numAt_eq]; exact getD_mem (by rw [List.length_map, Array.length_toList]; (walk_at "o"))
  · rw [← hnn] at hb
    obtain ⟨j, hj, rfl⟩ := mem_getD hb
    rw [List.length_map, Array.length_toList] at hj
    rw [← numAt_eq]; exact h2 j (by walk_at "o")
end
theorem compTurn_one (elt target iter t : Expr) (scope : Scope) (pos : Pos) (it acc : Value) (env : Env) :
    compTurn (.ListComp elt [⟨target, iter, [t], 0⟩] scope pos) 0 it acc env = (standAt iter.pos >>= fun _ => pyNext it >>= fun r => match r with
      | none => pure (.done .next)
      | some v => letOwnedTupleGo target it v >>= fun _ => assign target env v >>= fun _ =>
        (isTrue t env (eval t env)) >>= fun ok => (if ok = true then ((eval elt env >>= fun x => call (.builtin "list.append") [acc, x] >>= fun _ => pure ()) >>= fun _ => again (.compLoop (.ListComp elt [⟨target, iter, [t], 0⟩] scope pos) 0 it acc env)) else again (.compLoop (.ListComp elt [⟨target, iter, [t], 0⟩] scope pos) 0 it acc env))) := by
  unfold compTurn
  dsimp only [List.getElem?_cons_zero]
  simp only [List.forIn_cons, List.forIn_nil, bind_assoc, pure_bind, if_true]
  rfl
theorem closure_aux {env : Env} (f : Str × NameKind → List (Str × Addr) → Sem (ForInStep (List (Str × Addr)))) (hf : ∀ n k cs, f (n, k) cs = if (k == .free) = true then (do let a ← cellOf env n; pure (.yield ((n, a) :: cs))) else pure (.yield cs)) :
    ∀ (names : List (Str × NameKind)) (fr : List (Str × Addr)) (acc : List (Str × Addr)), (names.filter fun p => p.2 == .free).map Prod.fst = fr.map Prod.fst → (∀ p ∈ fr, env.cells.lookup p.1 = some p.2) → forIn names acc f = pure (fr.reverse ++ acc)
  | [], [], acc, _, _ => by rw [List.forIn_nil]; rfl
  | [], _ :: _, _, h, _ => by simp at h
  | (n, k) :: r, fr, acc, h, hl => by
    rw [List.forIn_cons, hf]
    by_cases hk : (k == .free) = true
    · rw [if_pos hk]
      rw [List.filter_cons, if_pos hk] at h
      match fr, h with
      | p :: fr, h =>
        rw [List.map_cons, List.map_cons] at h
        injection h with h1 h2
        have hc : cellOf env n = pure p.2 := by unfold cellOf; rw [show n = p.1 from h1, hl p (.head _)]
        rw [hc]
        simp only [pure_bind]
        rw [closure_aux f hf r fr _ h2 fun q hq => hl q (.tail _ hq), show (n, p.2) = p by rw [show n = p.1 from h1], List.reverse_cons, List.append_assoc]
        rfl
    · rw [if_neg hk]
      rw [List.filter_cons, if_neg hk] at h
      simp only [pure_bind]
      exact closure_aux f hf r fr acc h hl
theorem closure_of {scope : Scope} {env : Env} {fr : List (Str × Addr)} (h : (scope.names.filter fun p => p.2 == .free).map Prod.fst = fr.map Prod.fst) (hl : ∀ p ∈ fr, env.cells.lookup p.1 = some p.2) : closureFor scope env = pure fr.reverse := by
  unfold closureFor
  have := closure_aux (env := env) (fun x cs => if (x.2 == NameKind.free) = true then (do let a ← cellOf env x.1; pure (.yield ((x.1, a) :: cs))) else pure (.yield cs)) (fun n k cs => rfl) scope.names fr [] h hl
  rw [List.append_nil] at this
  rw [← this]
  simp only [bind_pure]
structure ScopeOk (scope : Scope) (x : Str) (fr : List Str) : Prop where
  kind : scope.kind = .function
  nd : (scope.names.map Prod.fst).Nodup
  dbg : ∀ p ∈ scope.names, (p.1 == ("__debug__" : Str)) = false
  dict : ∀ p ∈ scope.names, (p.1 == ("__classdict__" : Str)) = false
  loc : (x, NameKind.local) ∈ scope.names
  nocell : ∀ p ∈ scope.names, p.2 ≠ .cell
  free : (scope.names.filter fun p => p.2 == .free).map Prod.fst = fr
noncomputable def compFx (c : Fx) (s : Shared) (led : Led) (scope : Scope) (cl : List (Str × Addr)) (C : Addr) : Fx :=
  { g := c.g, h₀ := s.heap, W := addrs led, A := c.A, n := c.n, env := compEnvC scope cl C c.env, outer := c.frs, s₀ := s, own := false }
theorem relabel_lookup {env : Env} : ∀ {names : List (Str × NameKind)} {x : Str} {k : NameKind}, (names.map Prod.fst).Nodup → (x, k) ∈ names →
    (names.map fun (n, k) => if (k == NameKind.free && env.scope.kind == .function && env.kindOf n == some .cell) then (n, NameKind.cell) else (n, k)).lookup x = some k ∨
    (k = .free ∧ (names.map fun (n, k) => if (k == NameKind.free && env.scope.kind == .function && env.kindOf n == some .cell) then (n, NameKind.cell) else (n, k)).lookup x = some .cell)
  | [], _, _, _, h => nomatch h
  | (n, k') :: r, x, k, nd, h => by
    rw [List.map_cons, List.nodup_cons] at nd
    show List.lookup x ((if (k' == NameKind.free && env.scope.kind == .function && env.kindOf n == some .cell) = true then (n, NameKind.cell) else (n, k')) :: _) = _ ∨ (_ ∧ List.lookup x ((if (k' == NameKind.free && env.scope.kind == .function && env.kindOf n == some .cell) = true then (n, NameKind.cell) else (n, k')) :: _) = _)
    rcases List.mem_cons.mp h with e | h
    · cases e
      by_cases hc : (k' == NameKind.free && env.scope.kind == .function && env.kindOf n == some .cell) = true
      · rw [if_pos hc]
        simp only [Bool.and_eq_true, beq_iff_eq] at hc
        exact .inr ⟨hc.1.1, by simp [List.lookup_cons]⟩
      · rw [if_neg hc]
        exact .inl (by simp [List.lookup_cons])
    · have hx : (x == n) = false := beq_eq_false_iff_ne.mpr fun e => nd.1 (List.mem_map.mpr ⟨_, h, e⟩)
      have ih := relabel_lookup (env := env) nd.2 h
      by_cases hc : (k' == NameKind.free && env.scope.kind == .function && env.kindOf n == some .cell) = true
      · rw [if_pos hc]; simp only [List.lookup_cons, hx]; exact ih
      · rw [if_neg hc]; simp only [List.lookup_cons, hx]; exact ih
theorem lookup_mem2 {l : List (Str × Addr)} (nd : (l.map Prod.fst).Nodup) {x : Str} {k : Addr} (h : (x, k) ∈ l) : l.lookup x = some k := by
  induction l with
  | nil => cases h
  | cons p l ih =>
    obtain ⟨y, k'⟩ := p
    rw [List.map_cons, List.nodup_cons] at nd
    rcases List.mem_cons.mp h with e | h
    · cases e; rw [List.lookup_cons]; simp
    · have : (x == y) = false := beq_eq_false_iff_ne.mpr fun e => nd.1 (List.mem_map.mpr ⟨_, h, e⟩)
      rw [List.lookup_cons, this]; exact ih nd.2 h
noncomputable def ysOf (p : Nat → Bool) (f : Nat → V) (n : Nat) : List V := ((List.range n).filter p).map f
theorem ysOf_succ (p : Nat → Bool) (f : Nat → V) (k : Nat) : ysOf p f (k + 1) = if p k = true then ysOf p f k ++ [f k] else ysOf p f k := by
  unfold ysOf
  rw [List.range_succ, List.filter_append, List.map_append]
  by_cases h : p k = true
  · rw [if_pos h]; simp [h]
  · rw [if_neg h]; simp [h]
theorem ysOf_length (p : Nat → Bool) (f : Nat → V) (n : Nat) : (ysOf p f n).length ≤ n := by
  unfold ysOf
  rw [List.length_map]
  exact Nat.le_trans (List.length_filter_le ..) (by simp)
section
variable {c : Fx} {E : Value → Shared → Prop} {σ : St} {s : Shared}
theorem Rel.comp (R : Rel c σ s) {h₁ : Heap} {t : Tok} {m : Str → Option Value} (hns : h₁.Ns s.heap.objs.size m) (hk : ∀ b o, s.heap.get? b = some o → h₁.get? b = some o) {scope : Scope} {x : Str} {fr : List (Str × Addr)} {gl : List (Str × V)}
    (S : ScopeOk scope x (fr.map Prod.fst)) (hgl : ∀ p ∈ gl, (p.1, NameKind.globalImplicit) ∈ scope.names ∧ c.g.Has p.1 p.2) :
    Rel (compFx c s σ.led scope fr.reverse s.heap.objs.size) ⟨[(x, .unset)], gl, fr, σ.led⟩ { s with heap := h₁, toks := t } := by
  have ndf : (fr.map Prod.fst).Nodup := by
    rw [← S.free]
    exact List.Sublist.nodup (List.Sublist.map _ List.filter_sublist) S.nd
  refine ⟨⟨R.ok.g, R.base, R.caller.W, size_none _, S.kind, R.ok.glob, R.ok.bi, (fun h => by cases h), R.ok.room, R.ok.A, R.outs, R.caller.outW⟩, ⟨m, hns, ?_⟩, ?_, ?_, ?_, ?_, (fun p hp => at_of (R.led p hp) fun b _ ob e => hk b ob e), ?_, (fun a ha => .inl ha), (fun b o e _ => ⟨o, hk b o e, rfl, fun _ => rfl⟩), ⟨rfl, rfl, rfl⟩⟩
  · intro p hp
    rcases List.mem_cons.mp hp with rfl | hp
    · trivial
    · cases hp
  · intro p hp
    rcases List.mem_cons.mp hp with rfl | hp
    · refine ⟨?_, S.dbg _ S.loc⟩
      rcases relabel_lookup (env := c.env) S.nd S.loc with h | ⟨h, _⟩
      · exact h
      · cases h
    · cases hp
  · show [x].Nodup
    simp
  · intro p hp
    obtain ⟨h1, h2⟩ := hgl p hp
    refine ⟨?_, S.dbg _ h1, h2⟩
    rcases relabel_lookup (env := c.env) S.nd h1 with h | ⟨h, _⟩
    · exact h
    · cases h
  · intro p hp
    have hm : (p.1, NameKind.free) ∈ scope.names := by
      have : p.1 ∈ (scope.names.filter fun p => p.2 == .free).map Prod.fst := by rw [S.free]; exact List.mem_map_of_mem hp
      obtain ⟨q, hq, e⟩ := List.mem_map.mp this
      obtain ⟨hq, hf⟩ := List.mem_filter.mp hq
      have : q.2 = .free := beq_iff_eq.mp hf
      rw [← e, ← this]; exact hq
    refine ⟨?_, S.dbg _ hm, lookup_mem2 (by show ((fr.reverse).map Prod.fst).Nodup; rw [List.map_reverse]; exact List.pairwise_reverse.mpr (List.Pairwise.imp (fun h => Ne.symm h) ndf)) (List.mem_reverse.mpr hp)⟩
    rcases relabel_lookup (env := c.env) S.nd hm with h | ⟨_, h⟩
    · exact .inr ⟨h, S.dict _ hm⟩
    · exact .inl h
  · show (s.heap.objs.size :: addrs σ.led).Nodup
    rw [List.nodup_cons]
    refine ⟨fun hb => ?_, R.caller.nd⟩
    have := R.someLed _ hb
    rw [size_none] at this
    cases this
theorem Rel.addNs (R : Rel c σ s) {C : Addr} {m : Str → Option Value} (h : s.heap.Ns C m) (h1 : C ≠ c.env.locals) (h2 : C ∉ addrs σ.led) (h3 : C ∈ c.W ∨ c.h₀.get? C = none) : Rel c { σ with led := (C, .ns) :: σ.led } s := by
  refine { R with led := ?_, nd := ?_, own := ?_ }
  · intro p hp
    rcases List.mem_cons.mp hp with rfl | hp
    · exact ⟨m, h⟩
    · exact R.led p hp
  · show (c.env.locals :: C :: addrs σ.led).Nodup
    have := R.nd
    rw [List.nodup_cons] at this ⊢
    refine ⟨fun hm => ?_, List.nodup_cons.mpr ⟨h2, this.2⟩⟩
    rcases List.mem_cons.mp hm with e | hm
    · exact h1 e.symm
    · exact this.1 hm
  · intro a ha
    rcases List.mem_cons.mp (show a ∈ C :: addrs σ.led from ha) with rfl | ha
    · exact h3
    · exact R.own a ha
theorem comp_loop {c' : Fx} {elt iter : Expr} {x : Str} {px pos : Pos} {ifs : List Expr} {scope : Scope} {it acc : Addr} {ob : Nat → Ob} {n : Nat} {item : Nat → V} {led : Led} {gl : List (Str × V)} {cel : List (Str × Addr)} (p : Nat → Bool) (f : Nat → V) (T : Itr c' it ob n item (fun l => ∀ q ∈ led, q ∈ l))
    (ht : (ifs = [] ∧ ∀ k, k < n → p k = true) ∨ ∃ t, ifs = [t] ∧ ∀ k, k < n → ∀ led', (∀ q ∈ led, q ∈ led') → BP c' (fun _ _ => False) t ⟨[(x, item k)], gl, cel, led'⟩ (p k))
    (he : ∀ k, k < n → p k = true → ∀ led', (∀ q ∈ led, q ∈ led') → WE c' (fun _ _ => False) elt ⟨[(x, item k)], gl, cel, led'⟩ (fun v σ' => σ' = ⟨[(x, item k)], gl, cel, led'⟩ ∧ v = f k))
    (hz : n ≤ 16777216) {v0 : V} (R : Rel c' ⟨[(x, v0)], gl, cel, (it, ob 0) :: (acc, .list []) :: led⟩ s) :
    codeS (model c'.g.prog c'.g.w) c'.A (.compLoop (.ListComp elt [⟨.Name x px, iter, ifs, 0⟩] scope pos) 0 (.ref it) (.ref acc) c'.env) (fun r s' => ∃ fl, r = .ok fl ∧ ∃ v, Rel c' ⟨[(x, v)], gl, cel, (acc, .list (ysOf p f n)) :: led⟩ s') s := by
  refine codeS_loop rfl rfl (fun m s' => ∃ k v, m + k = n ∧ Rel c' ⟨[(x, v)], gl, cel, (it, ob k) :: (acc, .list (ysOf p f k)) :: led⟩ s') (fun m s' zq => ?_) n ⟨0, v0, rfl, R⟩
  obtain ⟨k, v, hk, R'⟩ := zq
  show wpS _ c'.A ((compTurn (.ListComp elt [⟨.Name x px, iter, ifs, 0⟩] scope pos) 0 (.ref it) (.ref acc) c'.env).onRaise (fun x => do noteFrame x c'.env; theTreesLotGoes x)) _ _ s'
  refine wpS_onRaise (wpS_mono (Q := fun fin s' => match fin with
    | .done _ => ∃ v, Rel c' ⟨[(x, v)], gl, cel, (acc, .list (ysOf p f n)) :: led⟩ s'
    | .again c'' => c'' = .compLoop (.ListComp elt [⟨.Name x px, iter, ifs, 0⟩] scope pos) 0 (.ref it) (.ref acc) c'.env ∧ ∃ m', m' < m ∧ ∃ k v, m' + k = n ∧ Rel c' ⟨[(x, v)], gl, cel, (it, ob k) :: (acc, .list (ysOf p f k)) :: led⟩ s') (E := fun _ _ => False) ?_ (fun fin s' z => ?_) fun _ _ z => z.elim)
  · have hy := ysOf_length p f k
    have item1 : ∀ (k' : Value → Sem Fin) (Q : Fin → Shared → Prop), k < n → (∀ u s₁, Rel c' ⟨[(x, item k)], gl, cel, (it, ob (k + 1)) :: (acc, .list (ysOf p f k)) :: led⟩ s₁ → wpS (model c'.g.prog c'.g.w) c'.A (k' u) Q (fun _ _ => False) s₁) →
        wpS (model c'.g.prog c'.g.w) c'.A (standAt iter.pos >>= fun _ => pyNext (.ref it) >>= fun r => match r with
          | none => pure (.done .next)
          | some v => letOwnedTupleGo (.Name x px) (.ref it) v >>= fun _ => assign (.Name x px) c'.env v >>= fun _ => k' v) Q (fun _ _ => False) s' := by
      intro k' Q hlt h
      refine wpS_bind (wpS_standAt (wpS_bind (wpS_of (wpAny_mono (T.1 k hlt _ _ s' rfl (fun q hq => .tail _ hq) R' (fun _ _ => False)) (fun r s₁ zq => ?_) fun _ _ z => z.elim))))
      obtain ⟨u, hr, hu, R₁⟩ := zq
      subst hr
      refine wpS_bind (wpS_of_eq (a := ()) rfl ?_)
      refine wpS_bind ?_
      show wpS _ _ (standAt px >>= fun _ => bindName c'.env x u) _ _ _
      exact wpS_bind (wpS_standAt (wpS_of (wpAny_bindName (storeLoc R₁ hu (.head _ _) fun s₂ R₂ => h u s₂ R₂))))
    have end1 : ∀ (k' : Value → Sem Fin) (Q : Fin → Shared → Prop), ¬ k < n → (∀ s₁, Rel c' ⟨[(x, v)], gl, cel, (acc, .list (ysOf p f n)) :: led⟩ s₁ → Q (.done .next) s₁) →
        wpS (model c'.g.prog c'.g.w) c'.A (standAt iter.pos >>= fun _ => pyNext (.ref it) >>= fun r => match r with
          | none => pure (.done .next)
          | some v => letOwnedTupleGo (.Name x px) (.ref it) v >>= fun _ => assign (.Name x px) c'.env v >>= fun _ => k' v) Q (fun _ _ => False) s' := by
      intro k' Q hlt h
      have hkn : k = n := by walk_at "o"
      subst hkn
      refine wpS_bind (wpS_standAt (wpS_bind (wpS_of (wpAny_mono (T.2 _ _ s' rfl (fun q hq => .tail _ hq) R' (fun _ _ => False)) (fun r s₁ zq => ?_) fun _ _ z => z.elim))))
      obtain ⟨hr, R₁⟩ := zq
      subst hr
      exact wpS_pure (h _ R₁)
    have put : ∀ (Q : Fin → Shared → Prop), k < n → p k = true → (∀ s₁, Rel c' ⟨[(x, item k)], gl, cel, (it, ob (k + 1)) :: (acc, .list (ysOf p f (k + 1))) :: led⟩ s₁ → Q (.again (.compLoop (.ListComp elt [⟨.Name x px, iter, ifs, 0⟩] scope pos) 0 (.ref it) (.ref acc) c'.env)) s₁) →
        ∀ s₁, Rel c' ⟨[(x, item k)], gl, cel, (it, ob (k + 1)) :: (acc, .list (ysOf p f k)) :: led⟩ s₁ → wpS (model c'.g.prog c'.g.w) c'.A ((eval elt c'.env >>= fun x => call (.builtin "list.append") [.ref acc, x] >>= fun _ => pure ()) >>= fun _ =>
          again (.compLoop (.ListComp elt [⟨.Name x px, iter, ifs, 0⟩] scope pos) 0 (.ref it) (.ref acc) c'.env)) Q (fun _ _ => False) s₁ := by
      intro Q hlt hp h s₁ R₁
      refine wpS_bind (wpS_bind (wpS_mono (he k hlt hp _ (fun q hq => .tail _ (.tail _ hq)) s₁ R₁) (fun u s₂ zq => ?_) fun _ _ z => z))
      obtain ⟨v', σ', R₂, hv, e, e'⟩ := zq
      subst e; subst e'
      have ca : CallO c' (fun _ _ => False) (.builtin "list.append") [.cst (.ref acc), f k] ⟨[(x, item k)], gl, cel, (it, ob (k + 1)) :: (acc, .list (ysOf p f k)) :: led⟩
          (fun _ σ' => σ' = ⟨[(x, item k)], gl, cel, (it, ob (k + 1)) :: (acc, .list (ysOf p f k ++ [f k])) :: led⟩) := by
        refine call_append (xs := ysOf p f k) (led' := (it, ob (k + 1)) :: (acc, .list (ysOf p f k ++ [f k])) :: led) ?_ (by walk_at "o") rfl
        apply Upd.tail
        exact .head _
      refine wpS_bind (wpS_mono (ca [.ref acc, u] ⟨rfl, hv, trivial⟩ s₂ R₂) (fun _ s₃ zq => ?_) fun _ _ z => z)
      obtain ⟨_, σ₃, R₃, _, e⟩ := zq
      subst e
      refine wpS_pure (wpS_pure (h s₃ ?_))
      rw [ysOf_succ, if_pos hp]
      exact R₃
    have skip : ∀ s₁, p k = false → Rel c' ⟨[(x, item k)], gl, cel, (it, ob (k + 1)) :: (acc, .list (ysOf p f k)) :: led⟩ s₁ → Rel c' ⟨[(x, item k)], gl, cel, (it, ob (k + 1)) :: (acc, .list (ysOf p f (k + 1))) :: led⟩ s₁ := by
      intro s₁ hp R₁
      rw [ysOf_succ, if_neg (by rw [hp]; exact Bool.false_ne_true)]
      exact R₁
    rcases ht with ⟨rfl, hp⟩ | ⟨t, rfl, ht⟩
    · rw [compTurn_list1]
      by_cases hlt : k < n
      · exact item1 _ _ hlt fun u s₁ R₁ => put _ hlt (hp k hlt) (fun s₂ R₂ => ⟨rfl, m - 1, by walk_at "o", k + 1, _, by walk_at "o", R₂⟩) s₁ R₁
      · exact end1 _ _ hlt fun s₁ R₁ => ⟨_, R₁⟩
    · rw [compTurn_one]
      by_cases hlt : k < n
      · refine item1 _ _ hlt fun u s₁ R₁ => ?_
        refine wpS_bind (wpS_mono (ht k hlt _ (fun q hq => .tail _ (.tail _ hq)) s₁ R₁) (fun b s₂ zq => ?_) fun _ _ z => z)
        obtain ⟨σ₂, R₂, e, eb⟩ := zq
        subst e
        cases b with
        | true =>
          rw [if_pos rfl]
          exact put _ hlt eb.symm (fun s₂ R₂ => ⟨rfl, m - 1, by walk_at "o", k + 1, _, by walk_at "o", R₂⟩) s₂ R₂
        | false =>
          rw [if_neg Bool.false_ne_true]
          exact wpS_pure ⟨rfl, m - 1, by walk_at "o", k + 1, _, by walk_at "o", skip _ eb.symm R₂⟩
      · exact end1 _ _ hlt fun s₁ R₁ => ⟨_, R₁⟩
  · cases fin with
    | done fl => exact ⟨fl, rfl, z⟩
    | again c'' => exact z
end
section
variable {c : Fx} {E : Value → Shared → Prop} {σ : St} {s : Shared}
theorem wpS_standIf {α : Type} {M : Model} {A : Around} {b : Prop} [Decidable b] {pos : Pos} {k : PUnit → Sem α} {Q : α → Shared → Prop} (h : wpS M A (k ()) Q E s) : wpS M A (if b then (standAt pos >>= k) else k ()) Q E s := by
  split
  · exact wpS_bind (wpS_standAt h)
  · exact h
theorem comp_start {c' : Fx} {elt iter : Expr} {x : Str} {px pos : Pos} {ifs : List Expr} {scope : Scope} {it acc : Addr} {R : Result → Shared → Prop}
    (h0 : codeS (model c'.g.prog c'.g.w) c'.A (.compLoop (.ListComp elt [⟨.Name x px, iter, ifs, 0⟩] scope pos) 0 (.ref it) (.ref acc) c'.env) R s)
    (h : ∀ (Q : Value → Shared → Prop) (E : Value → Shared → Prop), Q (.ref it) s → wpAny (model c'.g.prog c'.g.w) c'.A (pyIter (.ref it)) Q E s) :
    codeS (model c'.g.prog c'.g.w) c'.A (.compStart (.ListComp elt [⟨.Name x px, iter, ifs, 0⟩] scope pos) 0 (.ref it) (.ref acc) c'.env) R s := by
  refine codeS_of_tree rfl ?_
  show wpS _ c'.A ((compStart (.ListComp elt [⟨.Name x px, iter, ifs, 0⟩] scope pos) 0 (.ref it) (.ref acc) c'.env).onRaise (fun x => do noteFrame x c'.env; standAt theWindowsPlace)) _ _ s
  refine wpS_onRaise (wpS_mono (E := fun _ _ => False) ?_ (fun _ _ z => z) fun _ _ z => z.elim)
  unfold compStart
  show wpS _ _ (ask >>= _) _ _ s
  refine wpS_of (wpAny_bind (wpAny_askSetting (wpAny_ite ?_)))
  split
  · first
      | exact wpAny_bind (wpAny_pure (wpAny_pure (And.intro rfl h0)))
      | exact wpAny_pure (And.intro rfl h0)
  · first
      | exact wpAny_bind (wpAny_rule (wpAny_bind (wpAny_standAt (wpAny_bind (h _ _ (wpAny_pure (And.intro rfl h0)))))))
      | (refine wpAny_bind (wpAny_rule ?_); show wpAny _ _ (standAt iter.pos >>= _) _ _ s; exact wpAny_bind (wpAny_standAt (wpAny_bind (h _ _ (wpAny_pure (And.intro rfl h0))))))
end
namespace comp_gen
noncomputable def Stm (c : Fx) (E : Value → Shared → Prop) (σ : St) (s : Shared) (elt iter : Expr) (x : Str) (px pos cpos : Pos) (ifs : List Expr) (scope : Scope) (fr : List (Str × Addr)) (gl : List (Str × V)) (Q : Value → Shared → Prop) : Prop := ∀ {use : Option (Value → Sem Unit)} (S : ScopeOk scope x (fr.map Prod.fst)) (hgl : ∀ p ∈ gl, (p.1, NameKind.globalImplicit) ∈ scope.names ∧ c.g.Has p.1 p.2) (hi : ∀ x, foldedSetIterable iter c.env x = pure x) (R : Rel c σ s) (hcl : closureFor scope c.env = pure fr.reverse) (h : WE c E iter σ (fun v σ₁ => ∃ n item led p f, Src c v σ₁ n item led ∧ n ≤ 16777216 ∧
      (∀ c' : Fx, c'.g = c.g → c'.n = c.n →
        ((ifs = [] ∧ ∀ k, k < n → p k = true) ∨ ∃ t, ifs = [t] ∧ ∀ k, k < n → ∀ led', (∀ q ∈ led, q ∈ led') → BP c' (fun _ _ => False) t ⟨[(x, item k)], gl, fr, led'⟩ (p k)) ∧
        (∀ k, k < n → p k = true → ∀ led', (∀ q ∈ led, q ∈ led') → WE c' (fun _ _ => False) elt ⟨[(x, item k)], gl, fr, led'⟩ (fun v σ' => σ' = ⟨[(x, item k)], gl, fr, led'⟩ ∧ v = f k))) ∧
      ∀ C acc s', Rel c { σ₁ with led := (C, .ns) :: (acc, .list (ysOf p f n)) :: led } s' → match use with
        | none => ∀ s'', Rel c { σ₁ with led := (acc, .list (ysOf p f n)) :: led } s'' → Q (.ref acc) s''
        | some u => wpS (model c.g.prog c.g.w) c.A (u (.ref acc)) (fun _ s'' => ∃ σ'' : St, Rel c { σ'' with led := (C, .ns) :: σ''.led } s'' ∧ ∀ s₃, Rel c σ'' s₃ → Q .none s₃) E s')), wpS (model c.g.prog c.g.w) c.A (comprehension (.ListComp elt [⟨.Name x px, iter, ifs, 0⟩] scope cpos) scope c.env pos (newList []) false (eval iter c.env) use) Q E s
noncomputable def tt0 : Fx × (Value → Shared → Prop) × St × Shared × Expr × Expr × Str × Pos × Pos × Pos × (List Expr) × Scope × (List (Str × Addr)) × (List (Str × V)) × (Value → Shared → Prop) := (fx0, fun _ _ => True, ⟨[], [], [], []⟩, {}, default, default, "", default, default, default, [], default, [], [], fun _ _ => True)
noncomputable def Stq (q : Fx × (Value → Shared → Prop) × St × Shared × Expr × Expr × Str × Pos × Pos × Pos × (List Expr) × Scope × (List (Str × Addr)) × (List (Str × V)) × (Value → Shared → Prop)) : Prop := Stm (q.1) (q.2.1) (q.2.2.1) (q.2.2.2.1) (q.2.2.2.2.1) (q.2.2.2.2.2.1) (q.2.2.2.2.2.2.1) (q.2.2.2.2.2.2.2.1) (q.2.2.2.2.2.2.2.2.1) (q.2.2.2.2.2.2.2.2.2.1) (q.2.2.2.2.2.2.2.2.2.2.1) (q.2.2.2.2.2.2.2.2.2.2.2.1) (q.2.2.2.2.2.2.2.2.2.2.2.2.1) (q.2.2.2.2.2.2.2.2.2.2.2.2.2.1) (q.2.2.2.2.2.2.2.2.2.2.2.2.2.2)
noncomputable def pp0 : Fx × (Value → Shared → Prop) × St × Shared × Expr × Expr × Str × Pos × Pos × Pos × (List Expr) × Scope × (List (Str × Addr)) × (List (Str × V)) × (Value → Shared → Prop) := eps0 tt0 Stq
@[irreducible] noncomputable def c : Fx := pp0.1
@[irreducible] noncomputable def E : Value → Shared → Prop := pp0.2.1
@[irreducible] noncomputable def σ : St := pp0.2.2.1
@[irreducible] noncomputable def s : Shared := pp0.2.2.2.1
@[irreducible] noncomputable def elt : Expr := pp0.2.2.2.2.1
@[irreducible] noncomputable def iter : Expr := pp0.2.2.2.2.2.1
noncomputable def pp6 : Str × Pos × Pos × Pos × (List Expr) × Scope × (List (Str × Addr)) × (List (Str × V)) × (Value → Shared → Prop) := pp0.2.2.2.2.2.2
@[irreducible] noncomputable def x : Str := pp6.1
@[irreducible] noncomputable def px : Pos := pp6.2.1
@[irreducible] noncomputable def pos : Pos := pp6.2.2.1
@[irreducible] noncomputable def cpos : Pos := pp6.2.2.2.1
@[irreducible] noncomputable def ifs : List Expr := pp6.2.2.2.2.1
@[irreducible] noncomputable def scope : Scope := pp6.2.2.2.2.2.1
noncomputable def pp12 : (List (Str × Addr)) × (List (Str × V)) × (Value → Shared → Prop) := pp6.2.2.2.2.2.2
@[irreducible] noncomputable def fr : List (Str × Addr) := pp12.1
@[irreducible] noncomputable def gl : List (Str × V) := pp12.2.1
@[irreducible] noncomputable def Q : Value → Shared → Prop := pp12.2.2
theorem zz0 : Stm c E σ s elt iter x px pos cpos ifs scope fr gl Q := by
  intro use S hgl hi R hcl h
  unfold comprehension
  rw [hcl, show clausesOf (.ListComp elt [⟨.Name x px, iter, ifs, 0⟩] scope cpos) = [⟨.Name x px, iter, ifs, 0⟩] from rfl]
  refine wpS_bind (wpS_mono (h s R) (fun u s₁ zq => ?_) fun _ _ z => z)
  obtain ⟨v, σ₁, R₁, hv, n, item, led, p, f, hS, hn, hb, k⟩ := zq
  refine wpS_bind (wpS_standAt (wpS_bind (wpS_of_eq (hi u) ?_)))
  refine wpS_bind (wpS_holding (wpS_of (hS s₁ u _ _ R₁ hv fun s₂ it ob R₂ T self => ?_)))
  refine wpS_standIf ?_
  refine wpS_bindL (wpAny_newObj_type ?_ (seqOk (xs := []) trivial (Nat.zero_le _)))
  have R₃ := R₂.push (t := s₂.toks) (o := ⟨.type "list", none, .seq ([] : List Value).toArray 0, #[]⟩) (ob := .list []) rfl ⟨[], 0, Heap.get?_push_size _ rfl, trivial⟩
  have R₄ := R₃.sub (led' := (it, ob 0) :: (s₂.heap.objs.size, .list []) :: led) ⟨[], by rw [List.append_nil]; exact .swap ..⟩
  generalize hs₃ : ({ s₂ with heap := s₂.heap.push ⟨.type "list", none, .seq ([] : List Value).toArray 0, #[]⟩ } : Shared) = s₃
  have R₅ : Rel c { σ₁ with led := (it, ob 0) :: (s₂.heap.objs.size, .list []) :: led } s₃ := hs₃ ▸ R₄
  refine wpS_bind (wpS_pure (wpS_bindL (wpAny_newFunctionEnv S.nocell (by intro y hy; simp at hy) (fun h₁ hns hsb => ?_) S.kind)))
  have hkeep : ∀ b o, s₃.heap.get? b = some o → h₁.get? b = some o := fun b o e => hsb.extBut b o (Nat.ne_of_lt (Heap.lt_size e)) (Heap.get?_push_of_some _ e)
  have Rc := R₅.comp (t := s₃.toks + 0) hns hkeep S hgl
  have nl : c.env.locals ≠ s₃.heap.objs.size := fun q => by
    obtain ⟨m, ⟨o, _, _, e, _⟩, _⟩ := R₅.loc
    rw [q, size_none] at e; cases e
  have own : s₃.heap.objs.size ∈ c.W ∨ c.h₀.get? s₃.heap.objs.size = none := by
    by_cases q : s₃.heap.objs.size ∈ c.W
    · exact .inl q
    · refine .inr ?_
      cases e : c.h₀.get? s₃.heap.objs.size with
      | none => rfl
      | some o => obtain ⟨o', e', _⟩ := R₅.keep _ o e q; rw [size_none] at e'; cases e'
  obtain ⟨ht, he⟩ := hb _ (show (compFx c s₃ _ scope fr.reverse s₃.heap.objs.size).g = c.g from rfl) rfl
  have loop := comp_loop (elt := elt) (iter := iter) (px := px) (pos := cpos) (scope := scope) p f (T (compFx c s₃ ((it, ob 0) :: (s₂.heap.objs.size, .list []) :: led) scope fr.reverse s₃.heap.objs.size) R₁.ok.room.2.2) ht he hn Rc
  have start := comp_start loop fun Q E q => self _ _ _ Q E (.head _) Rc q
  dsimp only
  have vars : ∀ y ∈ (scope.names.filter fun x => (x.2 == .local || x.2 == .cell) && x.1 != (".0" : Str)).reverse, y.2 = .local → (compEnvC scope fr.reverse s₃.heap.objs.size c.env).kindOf y.1 = some .local := fun y hy hl => by
    have hm := (List.mem_filter.mp (List.mem_reverse.mp hy)).1
    obtain ⟨a, b⟩ := y
    dsimp only at hl
    subst hl
    rcases relabel_lookup (env := c.env) S.nd hm with h | ⟨h, _⟩
    · exact h
    · cases h
  have vars' : ∀ y ∈ (scope.names.filter fun x => (x.2 == .local || x.2 == .cell) && x.1 != (".0" : Str)).reverse.drop 1 ++ (scope.names.filter fun x => (x.2 == .local || x.2 == .cell) && x.1 != (".0" : Str)).reverse.take 1, y.2 = .local → (compEnvC scope fr.reverse s₃.heap.objs.size c.env).kindOf y.1 = some .local := fun y hy hl => by
    rcases List.mem_append.mp hy with h1 | h1
    · exact vars y (List.mem_of_mem_drop h1) hl
    · exact vars y (List.mem_of_mem_take h1) hl
  refine wpS_holding (wpS_bind (wpS_attempt (wpS_holding (wpS_run ?_))))
  refine codeS_mono start fun r s' ⟨fl, er, w, Rl⟩ => ?_
  subst er
  have Rb : Rel c { σ₁ with led := (s₂.heap.objs.size, .list (ysOf p f n)) :: led } s' := R₅.back (c' := compFx c s₃ ((it, ob 0) :: (s₂.heap.objs.size, .list []) :: led) scope fr.reverse s₃.heap.objs.size) rfl rfl rfl rfl Rl
  obtain ⟨m, hm, _⟩ := Rl.loc
  have Rn : Rel c { σ₁ with led := (s₃.heap.objs.size, .ns) :: (s₂.heap.objs.size, .list (ysOf p f n)) :: led } s' := Rb.addNs hm (Ne.symm nl) ((List.nodup_cons.mp Rl.nd).1) own
  cases use with
  | none =>
    have k' := k _ _ _ Rn
    dsimp only at k'
    refine wpS_bind (wpS_holding (wpS_of (wpAny_comp_letGo (cenv := compEnvC scope fr.reverse s₃.heap.objs.size c.env) S.kind _ s' m vars hm fun h' m' _ hs' => wpS_pure (k' _ (Rn.drop (t := s'.toks) rfl fun d o hd e => (hs'.2 d hd).trans e)))))
  | some u' =>
    have k' := k _ _ _ Rn
    dsimp only at k'
    refine wpS_bind (wpS_rule (wpS_bind (wpS_holding (wpS_mono k' (fun _ s'' zq => ?_) fun _ _ z => z))))
    obtain ⟨σ'', R'', q⟩ := zq
    obtain ⟨m', hm'⟩ := R''.led _ (.head _)
    refine wpS_bind (wpS_of (wpAny_comp_letGo (cenv := compEnvC scope fr.reverse s₃.heap.objs.size c.env) S.kind _ s'' m' vars' hm' fun h' m'' _ hs' => wpS_pure (q _ (R''.drop (t := s''.toks) rfl fun d o hd e => (hs'.2 d hd).trans e))))
end comp_gen
theorem comp_gen {c : Fx} {E : Value → Shared → Prop} {σ : St} {s : Shared} {elt iter : Expr} {x : Str} {px pos cpos : Pos} {ifs : List Expr} {scope : Scope} {fr : List (Str × Addr)} {gl : List (Str × V)} {Q : Value → Shared → Prop} : comp_gen.Stm c E σ s elt iter x px pos cpos ifs scope fr gl Q :=
  eps_at comp_gen.Stq comp_gen.tt0 (by with_unfolding_all exact comp_gen.zz0) (c, E, σ, s, elt, iter, x, px, pos, cpos, ifs, scope, fr, gl, Q)
section
variable {c : Fx} {E : Value → Shared → Prop} {σ : St} {s : Shared}
end
section
variable {c : Fx} {E : Value → Shared → Prop} {σ : St} {s : Shared}
theorem clos_of {scope : Scope} {x : Str} {fr : List (Str × Addr)} (S : ScopeOk scope x (fr.map Prod.fst)) (R : Rel c σ s) (hfr : ∀ q ∈ fr, q ∈ σ.cel) : closureFor scope c.env = pure fr.reverse :=
  closure_of S.free fun p hp => (R.cel _ (hfr p hp)).2.2
noncomputable def CompOk (c : Fx) (x : Str) (ifs : List Expr) (elt : Expr) (gl : List (Str × V)) (fr : List (Str × Addr)) (led : Led) (n : Nat) (item : Nat → V) (p : Nat → Bool) (f : Nat → V) : Prop :=
  ∀ c' : Fx, c'.g = c.g → c'.n = c.n →
    ((ifs = [] ∧ ∀ k, k < n → p k = true) ∨ ∃ t, ifs = [t] ∧ ∀ k, k < n → ∀ led', (∀ q ∈ led, q ∈ led') → BP c' (fun _ _ => False) t ⟨[(x, item k)], gl, fr, led'⟩ (p k)) ∧
    (∀ k, k < n → p k = true → ∀ led', (∀ q ∈ led, q ∈ led') → WE c' (fun _ _ => False) elt ⟨[(x, item k)], gl, fr, led'⟩ (fun v σ' => σ' = ⟨[(x, item k)], gl, fr, led'⟩ ∧ v = f k))
theorem e_comp {elt iter : Expr} {x : Str} {px cpos : Pos} {ifs : List Expr} {scope : Scope} {Q : V → St → Prop} (fr : List (Str × Addr)) (gl : List (Str × V)) (S : ScopeOk scope x (fr.map Prod.fst))
    (hgl : ∀ p ∈ gl, (p.1, NameKind.globalImplicit) ∈ scope.names ∧ c.g.Has p.1 p.2) (hfr : ∀ q ∈ fr, q ∈ σ.cel)
    (h : WE c E iter σ (fun v σ₁ => ∃ n item led p f, Src c v σ₁ n item led ∧ n ≤ 16777216 ∧ CompOk c x ifs elt gl fr led n item p f ∧ ∀ acc, Q (.cst (.ref acc)) { σ₁ with led := (acc, .list (ysOf p f n)) :: led }))
    (hi : ∀ x, foldedSetIterable iter c.env x = pure x := by intro _; rfl) : WE c E (.ListComp elt [⟨.Name x px, iter, ifs, 0⟩] scope cpos) σ Q := fun s R => by
  rw [eval_ListComp]
  refine comp_gen S hgl hi R (clos_of S R hfr) (h.mono fun v σ₁ zq => ?_)
  obtain ⟨n, item, led, p, f, hS, hn, hb, q⟩ := zq
  refine ⟨n, item, led, p, f, hS, hn, hb, fun C acc s' R' => ?_⟩
  exact fun s'' R'' => ⟨.cst (.ref acc), _, R'', rfl, q acc⟩
theorem s_comp {elt iter : Expr} {x y : Str} {px py cpos spos : Pos} {ifs : List Expr} {scope : Scope} {Q : Fl → St → Prop} (fr : List (Str × Addr)) (gl : List (Str × V)) (S : ScopeOk scope x (fr.map Prod.fst))
    (hgl : ∀ p ∈ gl, (p.1, NameKind.globalImplicit) ∈ scope.names ∧ c.g.Has p.1 p.2) (hfr : ∀ q ∈ fr, q ∈ σ.cel)
    (hsw : swapsWith (.ListComp elt [⟨.Name x px, iter, ifs, 0⟩] scope cpos) (some (.Name y py)) spos.line c.env = pure true)
    (h : WE c E iter σ (fun v σ₁ => ∃ n item led p f, Src c v σ₁ n item led ∧ n ≤ 16777216 ∧ CompOk c x ifs elt gl fr led n item p f ∧
      ∀ acc, ∃ loc', SetV y (.cst (.ref acc)) σ₁.loc loc' ∧ Q .next { σ₁ with loc := loc', led := (acc, .list (ysOf p f n)) :: led }))
    (hi : ∀ x, foldedSetIterable iter c.env x = pure x := by intro _; rfl) : WS c E (.Assign [.Name y py] (.ListComp elt [⟨.Name x px, iter, ifs, 0⟩] scope cpos) spos) σ Q := fun s R => by
  rw [exec_Assign_Name_used _ _ _ _ hsw]
  refine wpS_bind (wpS_standAt (wpS_bind ?_))
  show wpS _ c.A (comprehension (.ListComp elt [⟨.Name x px, iter, ifs, 0⟩] scope cpos) scope c.env (firstIterPos [⟨.Name x px, iter, ifs, 0⟩] cpos) (newList []) false (eval iter c.env) (some (assign (.Name y py) c.env)) >>= fun _ => pure ()) _ _ s
  refine wpS_bind (comp_gen (Q := fun _ s' => wpS (model c.g.prog c.g.w) c.A (pure ()) (fun _ s' => wpS (model c.g.prog c.g.w) c.A (pure Flow.next) (fun f s' => ∃ fl σ', Rel c σ' s' ∧ fl.At f ∧ Q fl σ') E s') E s') S hgl hi R (clos_of S R hfr)
    (h.mono fun v σ₁ zq => ?_))
  obtain ⟨n, item, led, p, f, hS, hn, hb, q⟩ := zq
  refine ⟨n, item, led, p, f, hS, hn, hb, fun C acc s' R' => ?_⟩
  obtain ⟨loc', U, q'⟩ := q acc
  show wpS _ _ (standAt py >>= fun _ => bindName c.env y (.ref acc)) _ _ _
  refine wpS_bind (wpS_standAt (wpS_of (wpAny_bindName (storeLoc (v := .cst (.ref acc)) R' rfl U fun s'' R'' => ⟨{ σ₁ with loc := loc', led := (acc, .list (ysOf p f n)) :: led }, R'', fun s₃ R₃ => ?_⟩))))
  exact wpS_pure (wpS_pure ⟨.next, _, R₃, rfl, q'⟩)
end
noncomputable def scEnv (sc : Scope) : Env := { scope := sc, locals := 0, globals := 0, cells := [] }
theorem swaps_scope {value : Expr} {target : Option Expr} {n : Nat} {env : Env} {sc : Scope} (h : env.scope = sc) : swapsWith value target n env = swapsWith value target n (scEnv sc) := by
  obtain ⟨sc', a, b, cs, d, e, f, g, i⟩ := env
  dsimp only at h
  subst h
  rfl
theorem cellsFrom_names : ∀ (names : List (Str × NameKind)) (n m : Nat) (acc acc' : List (Str × Addr)), acc.map Prod.fst = acc'.map Prod.fst → (cellsFrom n names acc).map Prod.fst = (cellsFrom m names acc').map Prod.fst
  | [], _, _, _, _, h => h
  | (x, k) :: r, n, m, acc, acc', h => by
    unfold cellsFrom
    split
    · exact cellsFrom_names r _ _ _ _ (by rw [List.map_cons, List.map_cons, h])
    · exact cellsFrom_names r _ _ _ _ h
theorem cellsFrom_cell : ∀ (names : List (Str × NameKind)) (n : Nat) (acc : List (Str × Addr)) (p : Str × Addr), p ∈ cellsFrom n names acc → p ∈ acc ∨ (p.1, NameKind.cell) ∈ names
  | [], _, _, _, h => .inl h
  | (x, k) :: r, n, acc, p, h => by
    unfold cellsFrom at h
    split at h
    · rename_i hk
      rcases cellsFrom_cell r _ _ p h with h | h
      · rcases List.mem_cons.mp h with rfl | h
        · refine .inr ?_
          rw [show k = .cell from beq_iff_eq.mp hk]
          exact .head _
        · exact .inl h
      · exact .inr (.tail _ h)
    · exact (cellsFrom_cell r _ _ p h).imp id fun h => .tail _ h
theorem zip_fst_snd : ∀ l : List (Str × Addr), (l.map Prod.fst).zip (l.map Prod.snd) = l
  | [] => rfl
  | p :: l => by rw [List.map_cons, List.map_cons, List.zip_cons_cons, zip_fst_snd l]
noncomputable def cellLed (as : List Addr) (cv : List V) : Led := as.zip (cv.map Ob.cell)
theorem addrs_cellLed : ∀ {as : List Addr} {cv : List V}, as.length = cv.length → addrs (cellLed as cv) = as
  | [], [], _ => rfl
  | a :: as, v :: cv, h => by
    show a :: ([] ++ addrs (cellLed as cv)) = _
    rw [addrs_cellLed (by simpa using h)]; rfl
  | [], _ :: _, h => by simp at h
  | _ :: _, [], h => by simp at h
theorem callC {g : Gx} {n : Nat} {f : Addr} {fd : FuncData} {body : List Stmt} {ps : List Str} {ys : List V} {led : Led} {frs : List Env} {A : Around} {s : Shared} {vs : List Value} {Q : V → Led → Prop} {X : Addr → Led → Prop} {loc0 : List (Str × V)} {cn : List Str} {cv : List V}
    (F : FnAt g.K f fd body ps) (hclo : fd.closure = []) (hl : ys.length = ps.length) (hloc : ∀ p ∈ loc0, (p.1, NameKind.local) ∈ fd.scope.names) (hnd : (loc0.map Prod.fst).Nodup)
    (hcn : (cellsFrom 0 fd.scope.names []).map Prod.fst = cn) (hcv : cv.length = cn.length)
    (hbind : ∀ x ∈ ps, (x, NameKind.local) ∈ fd.scope.names ∨ ((x, NameKind.cell) ∈ fd.scope.names ∧ x ∈ cn))
    (hval : ∀ us, AtAll ys us → (∀ p ∈ loc0, LocAt p.2 (bindL (fun x => fd.scope.names.lookup x) (ps.zip us) (fun _ => none) p.1)) ∧ (∀ p ∈ cn.zip cv, LocAt p.2 (bindC (fun x => fd.scope.names.lookup x) (ps.zip us) (fun _ => none) p.1)))
    (C : Caller g s led frs) (hA : A.frames = some frs) (room : Room (n + 1) A) (hvs : AtAll ys vs)
    (h : ∀ c : Fx, c.g = g → c.n = n → c.own = true → c.env.scope = fd.scope → (c.h₀ = s.heap ∧ c.W = addrs led ∧ c.outer = frs) → ∀ as : List Addr, as.length = cn.length →
      WSs c (Ex c X) body ⟨loc0, [], cn.zip as, cellLed as cv ++ led⟩ (retQ Q)) :
    wpS (model g.prog g.w) A (call (.ref f) vs) (fun u s' => ∃ env σ' v, Rel (calleeFx g s led frs A n env) σ' s' ∧ v.At u ∧ Q v σ'.led)
      (fun x s' => ∃ (env : Env) (σ' : St) (C e : Addr) (t : Option (Addr × Value)), x = .ref e ∧ Rel (calleeFx g s led frs A n env) { σ' with led := (e, .exc C t) :: σ'.led } s' ∧ X C σ'.led) s := by
  have X₀ := C.gok.K.keeps C.base
  have hlim := C.gok.lim.keeps C.base
  obtain ⟨o, hlo, hdo⟩ := F.obj
  have len : vs.length = ps.length := by rw [atAll_length hvs, hl]
  have hcs : (cellsFrom (s.heap.objs.size + 1) fd.scope.names []).map Prod.fst = cn := by rw [← hcn]; exact cellsFrom_names _ _ _ _ _ rfl
  have ndc : (cn).Nodup := by
    rw [← hcs]
    have key : ∀ (names : List (Str × NameKind)) (n : Nat) (acc : List (Str × Addr)), (names.map Prod.fst).Nodup → (acc.map Prod.fst).Nodup → (∀ p ∈ names, p.1 ∉ acc.map Prod.fst) → ((cellsFrom n names acc).map Prod.fst).Nodup := by
      intro names
      induction names with
      | nil => intro n acc _ h _; exact h
      | cons p r ih =>
        obtain ⟨x, k⟩ := p
        intro n acc h1 h2 h3
        rw [List.map_cons, List.nodup_cons] at h1
        unfold cellsFrom
        split
        · refine ih _ _ h1.2 ?_ fun q hq hm => ?_
          · rw [List.map_cons, List.nodup_cons]; exact ⟨h3 _ (.head _), h2⟩
          · rw [List.map_cons] at hm
            rcases List.mem_cons.mp hm with e | hm
            · exact h1.1 (e ▸ List.mem_map_of_mem hq)
            · exact h3 _ (.tail _ hq) hm
        · exact ih _ _ h1.2 h2 fun q hq => h3 q (.tail _ hq)
    exact key _ _ _ F.nd (by simp) (fun p _ => by simp)
  refine wpS_call (codeS_call_function (by have := room.1; (walk_at "o")) (X₀ _ _ hlo) hdo F.co F.gen F.body (F.codeRec X₀) (F.bind vs len) ?_)
  rw [hclo]
  refine wpAny_newFunctionEnv_cells F.kind (fun x hx => ?_) fun env he s' x => ?_
  · have hx' := (List.of_mem_zip hx).1
    rcases hbind x.1 hx' with h | ⟨h, hm⟩
    · exact .inl (lookup_mem F.nd h)
    · refine .inr ⟨lookup_mem F.nd h, ?_⟩
      rw [← hcs] at hm
      obtain ⟨p, hp, e⟩ := List.mem_map.mp hm
      rw [lookup_mem2 (by rw [hcs]; exact ndc) (show (x.1, p.2) ∈ _ by rw [← e]; exact hp)]
      rfl
  obtain ⟨⟨⟨h', tk, hs'⟩, hns, hkeep, hfresh⟩, hcell, hapart, habove⟩ := x
  have hlim' := hlim.keeps hkeep
  subst hs'
  have ok : (calleeFx g s led frs A n env).Ok := C.ok (n := n) (env := env) hA room (by rw [he]; exact F.kind) (by rw [he]; exact F.glob) (by rw [he]; exact F.bi) (by rw [he]; rfl) (by rw [he]; rfl)
  have hsc : env.scope = fd.scope := by rw [he]; rfl
  have hkd : env.kindOf = fun x => fd.scope.names.lookup x := by rw [he]; rfl
  have hcells : env.cells = cellsFrom (s.heap.objs.size + 1) fd.scope.names [] := by rw [he]; rfl
  have hloc' : env.locals = s.heap.objs.size := by rw [he]; rfl
  rw [hkd, hcells] at hcell
  rw [hkd] at hns
  rw [hcells] at hapart habove
  rw [hloc'] at habove
  have las : ((cellsFrom (s.heap.objs.size + 1) fd.scope.names []).map Prod.snd).length = cn.length := by rw [List.length_map, ← hcs, List.length_map]
  have hz : cn.zip ((cellsFrom (s.heap.objs.size + 1) fd.scope.names []).map Prod.snd) = cellsFrom (s.heap.objs.size + 1) fd.scope.names [] := by rw [← hcs]; exact zip_fst_snd _
  obtain ⟨v1, v2⟩ := hval vs hvs
  have R' : Rel (calleeFx g s led frs A n env) ⟨loc0, [], cn.zip ((cellsFrom (s.heap.objs.size + 1) fd.scope.names []).map Prod.snd), cellLed ((cellsFrom (s.heap.objs.size + 1) fd.scope.names []).map Prod.snd) cv ++ led⟩ { s with heap := h', toks := tk } := by
    refine ⟨ok, ⟨_, hns, v1⟩, fun p hp => ?_, hnd, (fun p hp => nomatch hp), fun p hp => ?_, fun p hp => ?_, ?_, fun a ha => ?_, (fun b o e _ => ⟨o, hkeep b o e, rfl, fun _ => rfl⟩), ⟨rfl, rfl, rfl⟩⟩
    · have := hloc p hp
      exact ⟨by show env.scope.names.lookup p.1 = _; rw [hsc]; exact lookup_mem F.nd this, F.dbg _ this⟩
    · rw [show ({ loc := loc0, glo := [], cel := cn.zip ((cellsFrom (s.heap.objs.size + 1) fd.scope.names []).map Prod.snd), led := cellLed ((cellsFrom (s.heap.objs.size + 1) fd.scope.names []).map Prod.snd) cv ++ led } : St).cel = cellsFrom (s.heap.objs.size + 1) fd.scope.names [] from hz] at hp
      rcases cellsFrom_cell _ _ _ p hp with h | h
      · cases h
      · refine ⟨.inl (by show env.scope.names.lookup p.1 = _; rw [hsc]; exact lookup_mem F.nd h), F.dbg _ h, ?_⟩
        show env.cells.lookup p.1 = _
        rw [hcells]
        exact lookup_mem2 (by rw [hcs]; exact ndc) hp
    · rcases List.mem_append.mp (show p ∈ cellLed _ cv ++ led from hp) with hp | hp
      · -- a cell
        have key : ∀ (cs : List (Str × Addr)) (cv : List V), (∀ q ∈ cs, q ∈ cellsFrom (s.heap.objs.size + 1) fd.scope.names []) → (∀ q ∈ (cs.map Prod.fst).zip cv, LocAt q.2 (bindC (fun x => fd.scope.names.lookup x) (ps.zip vs) (fun _ => none) q.1)) → ∀ p ∈ cellLed (cs.map Prod.snd) cv, p.2.At h' p.1 := by
          intro cs
          induction cs with
          | nil => intro cv _ _ p hp; cases hp
          | cons q cs ih =>
            intro cv hq hv p hp
            cases cv with
            | nil => cases hp
            | cons v cv =>
              rcases List.mem_cons.mp (show p ∈ (q.2, Ob.cell v) :: cellLed (cs.map Prod.snd) cv from hp) with rfl | hp
              · exact ⟨_, hcell q.1 q.2 (lookup_mem2 (by rw [hcs]; exact ndc) (hq q (.head _))), hv (q.1, v) (.head _)⟩
              · exact ih cv (fun r hr => hq r (.tail _ hr)) (fun r hr => hv r (.tail _ hr)) p hp
        exact key _ cv (fun q hq => hq) (by rw [hcs]; exact v2) p hp
      · exact at_of (C.at_ p hp) fun b _ ob e => hkeep b ob e
    · show (env.locals :: addrs (cellLed _ cv ++ led)).Nodup
      rw [addrs_append, addrs_cellLed (by rw [las, hcv]), hloc']
      have big : ∀ a ∈ (cellsFrom (s.heap.objs.size + 1) fd.scope.names []).map Prod.snd, s.heap.objs.size < a := fun a ha => by
        obtain ⟨q, hq, rfl⟩ := List.mem_map.mp ha
        exact habove q.1 q.2 hq
      have small : ∀ a ∈ addrs led, a < s.heap.objs.size := fun a ha => by
        have := someLed_of _ C.at_ a ha
        obtain ⟨o, ho⟩ := Option.isSome_iff_exists.mp this
        exact Heap.lt_size ho
      rw [List.nodup_cons]
      refine ⟨fun hm => ?_, nodup_append_iff.mpr ⟨List.pairwise_map.mpr hapart, C.nd, fun a ha b hb e => ?_⟩⟩
      · rcases List.mem_append.mp hm with hm | hm
        · exact absurd (big _ hm) (Nat.lt_irrefl _)
        · exact absurd (small _ hm) (Nat.lt_irrefl _)
      · subst e
        exact absurd (Nat.lt_trans (big a ha) (small a hb)) (Nat.lt_irrefl _)
    · rw [show ({ loc := loc0, glo := [], cel := cn.zip ((cellsFrom (s.heap.objs.size + 1) fd.scope.names []).map Prod.snd), led := cellLed ((cellsFrom (s.heap.objs.size + 1) fd.scope.names []).map Prod.snd) cv ++ led } : St).led = cellLed ((cellsFrom (s.heap.objs.size + 1) fd.scope.names []).map Prod.snd) cv ++ led from rfl, addrs_append, addrs_cellLed (by rw [las, hcv])] at ha
      rcases List.mem_append.mp ha with ha | ha
      · obtain ⟨q, hq, rfl⟩ := List.mem_map.mp ha
        exact .inr (Heap.get?_none_of_le (Nat.le_of_lt (habove q.1 q.2 hq)))
      · exact .inl ha
  refine ⟨hlim', codeS_func ?_⟩
  exact bodyE (R' := fun r s' => match r with
    | .ok (.ret u) => ∃ env σ' v, Rel (calleeFx g s led frs A n env) σ' s' ∧ v.At u ∧ Q v σ'.led
    | .ok _ => False
    | .error x => ∃ (env : Env) (σ' : St) (C e : Addr) (t : Option (Addr × Value)), x = .ref e ∧ Rel (calleeFx g s led frs A n env) { σ' with led := (e, .exc C t) :: σ'.led } s' ∧ X C σ'.led) hA R' (h _ rfl rfl rfl hsc ⟨rfl, rfl, rfl⟩ _ las)
    (fun u s' σ' v R hv q => ⟨_, σ', v, R, hv, q⟩) fun e s' C t σ' R q => ⟨_, σ', C, e, t, rfl, R, q⟩
noncomputable abbrev HK (P : Params) : Frag := Hk.k.heap_1 P
noncomputable def P0 : Params := { strHash := fun _ => 0, shareClass := fun _ => 0, mergeTok := id, idOf := fun a => 4096 + 16 * a, idOfShared := fun _ _ => 8, followText := fun _ => false, idOfImm := fun _ => 16 }
noncomputable def objAt (a : Addr) : Obj := match (HK P0).lookup a with | some o => o | none => ⟨Value.none, none, Data.plain, #[]⟩
noncomputable def fdAt (o : Obj) : Option FuncData := match o.data with | Data.func fd => some fd | _ => none
noncomputable def fdOf : Option FuncData → FuncData
  | some fd => fd
  | none => { name := "", qualname := "", params := ⟨[], [], none, [], [], none, []⟩, body := .stmts [], scope := ⟨.function, [], false, false, []⟩, globals := 0, closure := [], defaults := .none, kwdefaults := .none, doc := .none, pyModule := .none, code := .none, builtins := 0 }
noncomputable def bodyOf (fd : FuncData) : List Stmt := match fd.body with
  | .stmts b => b
  | _ => []
noncomputable def fieldsAt (o : Obj) : Array Value := match o.data with
  | Data.fields vs => vs
  | _ => #[]
noncomputable def tokAt (o : Obj) : Tok := match (fieldsAt o)[1]? with
  | some (Value.str _ t) => t
  | _ => 0
noncomputable def code (s : Str) : Nat := s.cps.toList.foldl (fun a c => a * 2097152 + c) 1
theorem ar1 {α : Type} {P : List α → Prop} (h : ∀ a, P [a]) : ∀ vs : List α, vs.length = 1 → P vs
  | [a], _ => h a
theorem ar2 {α : Type} {P : List α → Prop} (h : ∀ a b, P [a, b]) : ∀ vs : List α, vs.length = 2 → P vs
  | [a, b], _ => h a b
theorem ar3 {α : Type} {P : List α → Prop} (h : ∀ a b c, P [a, b, c]) : ∀ vs : List α, vs.length = 3 → P vs
  | a :: vs, e => ar2 (P := fun l => P (a :: l)) (h a) vs (Nat.succ.inj e)
theorem ar4 {α : Type} {P : List α → Prop} (h : ∀ a b c d, P [a, b, c, d]) : ∀ vs : List α, vs.length = 4 → P vs
  | a :: vs, e => ar3 (P := fun l => P (a :: l)) (h a) vs (Nat.succ.inj e)
theorem ar5 {α : Type} {P : List α → Prop} (h : ∀ a b c d e, P [a, b, c, d, e]) : ∀ vs : List α, vs.length = 5 → P vs
  | a :: vs, e => ar4 (P := fun l => P (a :: l)) (h a) vs (Nat.succ.inj e)
theorem ar6 {α : Type} {P : List α → Prop} (h : ∀ a b c d e f, P [a, b, c, d, e, f]) : ∀ vs : List α, vs.length = 6 → P vs
  | a :: vs, e => ar5 (P := fun l => P (a :: l)) (h a) vs (Nat.succ.inj e)
theorem nodup_codes {l : List Str} (ns : List Nat) (h : l.map code = ns) (d : ns.Nodup) : l.Nodup := by
  subst h
  exact List.Pairwise.imp (fun ne e => ne (congrArg code e)) (List.pairwise_map.mp d)
theorem dbg_codes {l : List (Str × NameKind)} (ns : List Nat) (h : (l.map Prod.fst).map code = ns) (d : code "__debug__" ∉ ns) : ∀ p ∈ l, (p.1 == ("__debug__" : Str)) = false := by
  subst h
  intro p hp
  refine beq_eq_false_iff_ne.mpr fun e => d ?_
  rw [← e]
  exact List.mem_map_of_mem (List.mem_map_of_mem hp)
theorem notin_codes {l : List Str} {x : Str} (ns : List Nat) (n : Nat) (h : l.map code = ns) (hx : code x = n) (d : n ∉ ns) : x ∉ l := fun hm => d (by rw [← h, ← hx]; exact List.mem_map_of_mem hm)
noncomputable def locsOf (fd : FuncData) : List Str := (fd.scope.names.filter fun p => p.2 == .local).map Prod.fst
noncomputable def subQ (Q : V → Led → Prop) (fl : Fl) (σ' : St) : Prop := match fl with
  | .ret v => ∃ led', Sub σ'.led led' ∧ Q v led'
  | .next => ∃ led', Sub σ'.led led' ∧ Q .none led'
  | _ => False
noncomputable def subX (X : Addr → Led → Prop) (C : Addr) (led : Led) : Prop := ∃ led', Sub led led' ∧ X C led'
theorem fnSX {g : Gx} {n : Nat} {f : Addr} {fd : FuncData} {body : List Stmt} {ps more : List Str} {ys : List V} {led : Led} {Q : V → Led → Prop} {X : Addr → Led → Prop}
    (F : FnAt g.K f fd body ps) (hlocs : ps ++ more = locsOf fd) (hcell : fd.scope.names.all (·.2 != .cell) = true) (hclo : fd.closure = []) (hl : ys.length = ps.length)
    (h : ∀ c : Fx, c.g = g → c.n = n → c.own = true → c.env.scope = fd.scope →
      WSs c (Ex c (subX X)) body ⟨ps.zip ys ++ more.map fun x => (x, .unset), [], [], led⟩ (subQ Q)) :
    FnS g (n + 1) f ys led Q X := by
  have key : FnS g (n + 1) f ys led (fun v led₁ => ∃ led', Sub led₁ led' ∧ Q v led') (subX X) := by
    refine fnS_of F hclo (fun x hx e => ?_) hl (fun x hx => ?_) ?_ (fun c hg hn ho he => FW.mono (h c hg hn ho he) fun fl σ' q => ?_)
    · have := List.all_eq_true.mp hcell x hx
      rw [e] at this; exact absurd this (by decide)
    · rw [hlocs] at hx
      obtain ⟨p, hp, e⟩ := List.mem_map.mp hx
      obtain ⟨hp, hk⟩ := List.mem_filter.mp hp
      have : p.2 = .local := beq_iff_eq.mp hk
      rw [← e, ← this]; exact hp
    · rw [hlocs]
      exact List.Sublist.nodup (List.Sublist.map _ List.filter_sublist) F.nd
    · cases fl <;> exact q
  intro c σ s A vs hg R hl hA room hvs
  refine wpS_mono (key c σ s A vs hg R hl hA room hvs) (fun u s' zq => by obtain ⟨v, led₁, R', hv, led', hs, q⟩ := zq; exact ⟨v, led', R'.sub hs, hv, q⟩) fun e s' ⟨C, led₁, ⟨x, t, hx, R'⟩, _, led', hs, q⟩ => ⟨C, led', ⟨x, t, hx, R'.sub hs.cons⟩, trivial, q⟩
theorem fnS {g : Gx} {n : Nat} {f : Addr} {fd : FuncData} {body : List Stmt} {ps more : List Str} {ys : List V} {led : Led} {Q : V → Led → Prop}
    (F : FnAt g.K f fd body ps) (hlocs : ps ++ more = locsOf fd) (hcell : fd.scope.names.all (·.2 != .cell) = true) (hclo : fd.closure = []) (hl : ys.length = ps.length)
    (h : ∀ c : Fx, c.g = g → c.n = n → c.env.scope = fd.scope →
      WSs c (fun _ _ => False) body ⟨ps.zip ys ++ more.map fun x => (x, .unset), [], [], led⟩ (fun fl σ' => match fl with
        | .ret v => ∃ led', Sub σ'.led led' ∧ Q v led'
        | .next => ∃ led', Sub σ'.led led' ∧ Q .none led'
        | _ => False)) :
    FnS g (n + 1) f ys led Q NoX :=
  fnSX F hlocs hcell hclo hl fun c hg hn _ he => FW.mono (FW.monoE (h c hg hn he) fun _ _ z => z.elim) fun fl σ' q => by cases fl <;> exact q
noncomputable def X127 : { b : Option FuncData // fdAt (objAt 127) = b } := by
  refine ⟨?b, ?h⟩
  rotate_left
  · conv => lhs; whnf
noncomputable def fd127 : FuncData := fdOf X127.1
noncomputable def Y127 : { b : List Stmt // bodyOf fd127 = b } := by
  refine ⟨?b, ?h⟩
  rotate_left
  · conv => lhs; whnf
noncomputable abbrev body127 : List Stmt := Y127.1
theorem fn127 (P : Params) : FnAt (HK P) 127 fd127 body127 [("n" : Str)] where
  obj := ⟨objAt 127, by kernel_rfl, by kernel_rfl⟩
  code := ⟨126, objAt 126, fieldsAt (objAt 126), tokAt (objAt 126), by kernel_rfl, by kernel_rfl, by kernel_rfl, by kernel_rfl⟩
  body := by kernel_rfl
  bind := ar1 fun v0 => by kernel_rfl
  glob := by kernel_rfl
  bi := by kernel_rfl
  kind := by kernel_rfl
  co := by kernel_rfl
  gen := by kernel_rfl
  nd := nodup_codes [2097262, 40566714804104525113073476829299, 7237416231427483854440160097543292424695251132429058134814652216283190263923, 85073715222570861887145311134080303154] (by kernel_rfl) (by decide +kernel)
  dbg := dbg_codes [2097262, 40566714804104525113073476829299, 7237416231427483854440160097543292424695251132429058134814652216283190263923, 85073715222570861887145311134080303154] (by kernel_rfl) (by decide +kernel)
theorem loc127 : [("n" : Str)] ++ [] = locsOf fd127 := by kernel_rfl
theorem noc127 : fd127.scope.names.all (·.2 != .cell) = true := by kernel_rfl
theorem clo127 : fd127.closure = [] := by kernel_rfl
theorem g127_bytes : (("bytes" : Str), NameKind.globalImplicit) ∈ fd127.scope.names := (.tail _ (.head _))
theorem g127_write_groups : (("write_groups" : Str), NameKind.globalImplicit) ∈ fd127.scope.names := (.tail _ (.tail _ (.head _)))
theorem g127_MAX_32 : (("MAX_32" : Str), NameKind.globalImplicit) ∈ fd127.scope.names := (mem_ix 3 (by kernel_rfl))
noncomputable def X134 : { b : Option FuncData // fdAt (objAt 134) = b } := by
  refine ⟨?b, ?h⟩
  rotate_left
  · conv => lhs; whnf
noncomputable def fd134 : FuncData := fdOf X134.1
noncomputable def Y134 : { b : List Stmt // bodyOf fd134 = b } := by
  refine ⟨?b, ?h⟩
  rotate_left
  · conv => lhs; whnf
noncomputable abbrev body134 : List Stmt := Y134.1
theorem fn134 (P : Params) : FnAt (HK P) 134 fd134 body134 [("data" : Str), ("at" : Str)] where
  obj := ⟨objAt 134, by kernel_rfl, by kernel_rfl⟩
  code := ⟨133, objAt 133, fieldsAt (objAt 133), tokAt (objAt 133), by kernel_rfl, by kernel_rfl, by kernel_rfl, by kernel_rfl⟩
  body := by kernel_rfl
  bind := ar2 fun v0 v1 => by kernel_rfl
  glob := by kernel_rfl
  bi := by kernel_rfl
  kind := by kernel_rfl
  co := by kernel_rfl
  gen := by kernel_rfl
  nd := nodup_codes [19343735451464363027726433, 4398249934964, 9223847026089787502, 3451060760994064956907466941073972905376085173003743832111279461367923, 85073715222570861887145311134080303154] (by kernel_rfl) (by decide +kernel)
  dbg := dbg_codes [19343735451464363027726433, 4398249934964, 9223847026089787502, 3451060760994064956907466941073972905376085173003743832111279461367923, 85073715222570861887145311134080303154] (by kernel_rfl) (by decide +kernel)
theorem loc134 : [("data" : Str), ("at" : Str)] ++ [] = locsOf fd134 := by kernel_rfl
theorem noc134 : fd134.scope.names.all (·.2 != .cell) = true := by kernel_rfl
theorem clo134 : fd134.closure = [] := by kernel_rfl
theorem g134_len : (("len" : Str), NameKind.globalImplicit) ∈ fd134.scope.names := (.tail _ (.tail _ (.head _)))
theorem g134_read_groups : (("read_groups" : Str), NameKind.globalImplicit) ∈ fd134.scope.names := (mem_ix 3 (by kernel_rfl))
theorem g134_MAX_32 : (("MAX_32" : Str), NameKind.globalImplicit) ∈ fd134.scope.names := (mem_ix 4 (by kernel_rfl))
noncomputable def X141 : { b : Option FuncData // fdAt (objAt 141) = b } := by
  refine ⟨?b, ?h⟩
  rotate_left
  · conv => lhs; whnf
noncomputable def fd141 : FuncData := fdOf X141.1
noncomputable def Y141 : { b : List Stmt // bodyOf fd141 = b } := by
  refine ⟨?b, ?h⟩
  rotate_left
  · conv => lhs; whnf
noncomputable abbrev body141 : List Stmt := Y141.1
theorem fn141 (P : Params) : FnAt (HK P) 141 fd141 body141 [("n" : Str)] where
  obj := ⟨objAt 141, by kernel_rfl, by kernel_rfl⟩
  code := ⟨140, objAt 140, fieldsAt (objAt 140), tokAt (objAt 140), by kernel_rfl, by kernel_rfl, by kernel_rfl, by kernel_rfl⟩
  body := by kernel_rfl
  bind := ar1 fun v0 => by kernel_rfl
  glob := by kernel_rfl
  bi := by kernel_rfl
  kind := by kernel_rfl
  co := by kernel_rfl
  gen := by kernel_rfl
  nd := nodup_codes [2097262, 85073715222570861887145311134080303154, 784662410472304825196301788564068953397222868734143627374, 40566714804104525113073476829299] (by kernel_rfl) (by decide +kernel)
  dbg := dbg_codes [2097262, 85073715222570861887145311134080303154, 784662410472304825196301788564068953397222868734143627374, 40566714804104525113073476829299] (by kernel_rfl) (by decide +kernel)
theorem loc141 : [("n" : Str)] ++ [] = locsOf fd141 := by kernel_rfl
theorem noc141 : fd141.scope.names.all (·.2 != .cell) = true := by kernel_rfl
theorem clo141 : fd141.closure = [] := by kernel_rfl
theorem g141_MAX_32 : (("MAX_32" : Str), NameKind.globalImplicit) ∈ fd141.scope.names := (.tail _ (.head _))
theorem g141_BadOption : (("BadOption" : Str), NameKind.globalImplicit) ∈ fd141.scope.names := (.tail _ (.tail _ (.head _)))
theorem g141_bytes : (("bytes" : Str), NameKind.globalImplicit) ∈ fd141.scope.names := (mem_ix 3 (by kernel_rfl))
noncomputable def X148 : { b : Option FuncData // fdAt (objAt 148) = b } := by
  refine ⟨?b, ?h⟩
  rotate_left
  · conv => lhs; whnf
noncomputable def fd148 : FuncData := fdOf X148.1
noncomputable def Y148 : { b : List Stmt // bodyOf fd148 = b } := by
  refine ⟨?b, ?h⟩
  rotate_left
  · conv => lhs; whnf
noncomputable abbrev body148 : List Stmt := Y148.1
theorem fn148 (P : Params) : FnAt (HK P) 148 fd148 body148 [("data" : Str), ("at" : Str)] where
  obj := ⟨objAt 148, by kernel_rfl, by kernel_rfl⟩
  code := ⟨147, objAt 147, fieldsAt (objAt 147), tokAt (objAt 147), by kernel_rfl, by kernel_rfl, by kernel_rfl, by kernel_rfl⟩
  body := by kernel_rfl
  bind := ar2 fun v0 v1 => by kernel_rfl
  glob := by kernel_rfl
  bi := by kernel_rfl
  kind := by kernel_rfl
  co := by kernel_rfl
  gen := by kernel_rfl
  nd := nodup_codes [19343735451464363027726433, 4398249934964, 9223847026089787502, 3451009750355141917908954508194956824268710851369304399108902901252211] (by kernel_rfl) (by decide +kernel)
  dbg := dbg_codes [19343735451464363027726433, 4398249934964, 9223847026089787502, 3451009750355141917908954508194956824268710851369304399108902901252211] (by kernel_rfl) (by decide +kernel)
theorem loc148 : [("data" : Str), ("at" : Str)] ++ [] = locsOf fd148 := by kernel_rfl
theorem noc148 : fd148.scope.names.all (·.2 != .cell) = true := by kernel_rfl
theorem clo148 : fd148.closure = [] := by kernel_rfl
theorem g148_len : (("len" : Str), NameKind.globalImplicit) ∈ fd148.scope.names := (.tail _ (.tail _ (.head _)))
theorem g148_ShortOctets : (("ShortOctets" : Str), NameKind.globalImplicit) ∈ fd148.scope.names := (mem_ix 3 (by kernel_rfl))
noncomputable def X155 : { b : Option FuncData // fdAt (objAt 155) = b } := by
  refine ⟨?b, ?h⟩
  rotate_left
  · conv => lhs; whnf
noncomputable def fd155 : FuncData := fdOf X155.1
noncomputable def Y155 : { b : List Stmt // bodyOf fd155 = b } := by
  refine ⟨?b, ?h⟩
  rotate_left
  · conv => lhs; whnf
noncomputable abbrev body155 : List Stmt := Y155.1
theorem fn155 (P : Params) : FnAt (HK P) 155 fd155 body155 [("data" : Str), ("at" : Str)] where
  obj := ⟨objAt 155, by kernel_rfl, by kernel_rfl⟩
  code := ⟨154, objAt 154, fieldsAt (objAt 154), tokAt (objAt 154), by kernel_rfl, by kernel_rfl, by kernel_rfl, by kernel_rfl⟩
  body := by kernel_rfl
  bind := ar2 fun v0 v1 => by kernel_rfl
  glob := by kernel_rfl
  bi := by kernel_rfl
  kind := by kernel_rfl
  co := by kernel_rfl
  gen := by kernel_rfl
  nd := nodup_codes [19343735451464363027726433, 4398249934964, 9223847026089787502, 3451009750355141917908954508194956824268710851369304399108902901252211, 7237398977040225312508408110407164426370196815921713988574373163292986179634] (by kernel_rfl) (by decide +kernel)
  dbg := dbg_codes [19343735451464363027726433, 4398249934964, 9223847026089787502, 3451009750355141917908954508194956824268710851369304399108902901252211, 7237398977040225312508408110407164426370196815921713988574373163292986179634] (by kernel_rfl) (by decide +kernel)
theorem loc155 : [("data" : Str), ("at" : Str)] ++ [] = locsOf fd155 := by kernel_rfl
theorem noc155 : fd155.scope.names.all (·.2 != .cell) = true := by kernel_rfl
theorem clo155 : fd155.closure = [] := by kernel_rfl
theorem g155_len : (("len" : Str), NameKind.globalImplicit) ∈ fd155.scope.names := (.tail _ (.tail _ (.head _)))
theorem g155_ShortOctets : (("ShortOctets" : Str), NameKind.globalImplicit) ∈ fd155.scope.names := (mem_ix 3 (by kernel_rfl))
theorem g155_read_fixed32 : (("read_fixed32" : Str), NameKind.globalImplicit) ∈ fd155.scope.names := (mem_ix 4 (by kernel_rfl))
noncomputable def X162 : { b : Option FuncData // fdAt (objAt 162) = b } := by
  refine ⟨?b, ?h⟩
  rotate_left
  · conv => lhs; whnf
noncomputable def fd162 : FuncData := fdOf X162.1
noncomputable def Y162 : { b : List Stmt // bodyOf fd162 = b } := by
  refine ⟨?b, ?h⟩
  rotate_left
  · conv => lhs; whnf
noncomputable abbrev body162 : List Stmt := Y162.1
theorem fn162 (P : Params) : FnAt (HK P) 162 fd162 body162 [("a" : Str), ("b" : Str)] where
  obj := ⟨objAt 162, by kernel_rfl, by kernel_rfl⟩
  code := ⟨161, objAt 161, fieldsAt (objAt 161), tokAt (objAt 161), by kernel_rfl, by kernel_rfl, by kernel_rfl, by kernel_rfl⟩
  body := by kernel_rfl
  bind := ar2 fun v0 v1 => by kernel_rfl
  glob := by kernel_rfl
  bi := by kernel_rfl
  kind := by kernel_rfl
  co := by kernel_rfl
  gen := by kernel_rfl
  nd := nodup_codes [2097249, 2097250, 19343818461874267369767028, 4398249934964, 9223847026089787502] (by kernel_rfl) (by decide +kernel)
  dbg := dbg_codes [2097249, 2097250, 19343818461874267369767028, 4398249934964, 9223847026089787502] (by kernel_rfl) (by decide +kernel)
theorem loc162 : [("a" : Str), ("b" : Str)] ++ [("most" : Str), ("at" : Str)] = locsOf fd162 := by kernel_rfl
theorem noc162 : fd162.scope.names.all (·.2 != .cell) = true := by kernel_rfl
theorem clo162 : fd162.closure = [] := by kernel_rfl
theorem g162_len : (("len" : Str), NameKind.globalImplicit) ∈ fd162.scope.names := (mem_ix 4 (by kernel_rfl))
noncomputable def X176 : { b : Option FuncData // fdAt (objAt 176) = b } := by
  refine ⟨?b, ?h⟩
  rotate_left
  · conv => lhs; whnf
noncomputable def fd176 : FuncData := fdOf X176.1
noncomputable def Y176 : { b : List Stmt // bodyOf fd176 = b } := by
  refine ⟨?b, ?h⟩
  rotate_left
  · conv => lhs; whnf
noncomputable abbrev body176 : List Stmt := Y176.1
theorem fn176 (P : Params) : FnAt (HK P) 176 fd176 body176 [("self" : Str), ("interval" : Str), ("order" : Str)] where
  obj := ⟨objAt 176, by kernel_rfl, by kernel_rfl⟩
  code := ⟨175, objAt 175, fieldsAt (objAt 175), tokAt (objAt 175), by kernel_rfl, by kernel_rfl, by kernel_rfl, by kernel_rfl⟩
  body := by kernel_rfl
  bind := ar3 fun v0 v1 v2 => by kernel_rfl
  glob := by kernel_rfl
  bi := by kernel_rfl
  kind := by kernel_rfl
  co := by kernel_rfl
  gen := by kernel_rfl
  nd := nodup_codes [19343873802062508018630758, 374163151792035682579428996596323779887637140078700, 40566966260610441281315088105586, 784662410472304825196301788564068953397222868734143627374, 784674383097999584392255952902879695407911243455563563129] (by kernel_rfl) (by decide +kernel)
  dbg := dbg_codes [19343873802062508018630758, 374163151792035682579428996596323779887637140078700, 40566966260610441281315088105586, 784662410472304825196301788564068953397222868734143627374, 784674383097999584392255952902879695407911243455563563129] (by kernel_rfl) (by decide +kernel)
theorem loc176 : [("self" : Str), ("interval" : Str), ("order" : Str)] ++ [] = locsOf fd176 := by kernel_rfl
theorem noc176 : fd176.scope.names.all (·.2 != .cell) = true := by kernel_rfl
theorem clo176 : fd176.closure = [] := by kernel_rfl
theorem g176_BadOption : (("BadOption" : Str), NameKind.globalImplicit) ∈ fd176.scope.names := (mem_ix 3 (by kernel_rfl))
theorem g176_bytearray : (("bytearray" : Str), NameKind.globalImplicit) ∈ fd176.scope.names := (mem_ix 4 (by kernel_rfl))
noncomputable def X197 : { b : Option FuncData // fdAt (objAt 197) = b } := by
  refine ⟨?b, ?h⟩
  rotate_left
  · conv => lhs; whnf
noncomputable def fd197 : FuncData := fdOf X197.1
noncomputable def Y197 : { b : List Stmt // bodyOf fd197 = b } := by
  refine ⟨?b, ?h⟩
  rotate_left
  · conv => lhs; whnf
noncomputable abbrev body197 : List Stmt := Y197.1
theorem fn197 (P : Params) : FnAt (HK P) 197 fd197 body197 [("self" : Str)] where
  obj := ⟨objAt 197, by kernel_rfl, by kernel_rfl⟩
  code := ⟨196, objAt 196, fieldsAt (objAt 196), tokAt (objAt 196), by kernel_rfl, by kernel_rfl, by kernel_rfl, by kernel_rfl⟩
  body := by kernel_rfl
  bind := ar1 fun v0 => by kernel_rfl
  glob := by kernel_rfl
  bi := by kernel_rfl
  kind := by kernel_rfl
  co := by kernel_rfl
  gen := by kernel_rfl
  nd := nodup_codes [19343873802062508018630758, 9223847026089787502] (by kernel_rfl) (by decide +kernel)
  dbg := dbg_codes [19343873802062508018630758, 9223847026089787502] (by kernel_rfl) (by decide +kernel)
theorem loc197 : [("self" : Str)] ++ [] = locsOf fd197 := by kernel_rfl
theorem noc197 : fd197.scope.names.all (·.2 != .cell) = true := by kernel_rfl
theorem clo197 : fd197.closure = [] := by kernel_rfl
theorem g197_len : (("len" : Str), NameKind.globalImplicit) ∈ fd197.scope.names := (.tail _ (.head _))
noncomputable def X204 : { b : Option FuncData // fdAt (objAt 204) = b } := by
  refine ⟨?b, ?h⟩
  rotate_left
  · conv => lhs; whnf
noncomputable def fd204 : FuncData := fdOf X204.1
noncomputable def Y204 : { b : List Stmt // bodyOf fd204 = b } := by
  refine ⟨?b, ?h⟩
  rotate_left
  · conv => lhs; whnf
noncomputable abbrev body204 : List Stmt := Y204.1
theorem fn204 (P : Params) : FnAt (HK P) 204 fd204 body204 [("self" : Str), ("key" : Str), ("value" : Str)] where
  obj := ⟨objAt 204, by kernel_rfl, by kernel_rfl⟩
  code := ⟨203, objAt 203, fieldsAt (objAt 203), tokAt (objAt 203), by kernel_rfl, by kernel_rfl, by kernel_rfl, by kernel_rfl⟩
  body := by kernel_rfl
  bind := ar3 fun v0 v1 v2 => by kernel_rfl
  glob := by kernel_rfl
  bi := by kernel_rfl
  kind := by kernel_rfl
  co := by kernel_rfl
  gen := by kernel_rfl
  nd := nodup_codes [19343873802062508018630758, 9223842628043276409, 40567101660145440830340529651813, 85075256686455109208547491624876245092, 1645556343454297898045241186419815524017517300752288239318990962, 15177932976513792546360043889354602660728231566087692282966580266095939844088791160, 9223847026089787502, 7237392075320206609769874723151156023511103593384039669888103877567188041778, 40566714804104525113073476829299] (by kernel_rfl) (by decide +kernel)
  dbg := dbg_codes [19343873802062508018630758, 9223842628043276409, 40567101660145440830340529651813, 85075256686455109208547491624876245092, 1645556343454297898045241186419815524017517300752288239318990962, 15177932976513792546360043889354602660728231566087692282966580266095939844088791160, 9223847026089787502, 7237392075320206609769874723151156023511103593384039669888103877567188041778, 40566714804104525113073476829299] (by kernel_rfl) (by decide +kernel)
theorem loc204 : [("self" : Str), ("key" : Str), ("value" : Str)] ++ [("shared" : Str)] = locsOf fd204 := by kernel_rfl
theorem noc204 : fd204.scope.names.all (·.2 != .cell) = true := by kernel_rfl
theorem clo204 : fd204.closure = [] := by kernel_rfl
theorem g204_BuildOrder : (("BuildOrder" : Str), NameKind.globalImplicit) ∈ fd204.scope.names := (mem_ix 4 (by kernel_rfl))
theorem g204_shared_prefix : (("shared_prefix" : Str), NameKind.globalImplicit) ∈ fd204.scope.names := (mem_ix 5 (by kernel_rfl))
theorem g204_len : (("len" : Str), NameKind.globalImplicit) ∈ fd204.scope.names := (mem_ix 6 (by kernel_rfl))
theorem g204_put_varint32 : (("put_varint32" : Str), NameKind.globalImplicit) ∈ fd204.scope.names := (mem_ix 7 (by kernel_rfl))
theorem g204_bytes : (("bytes" : Str), NameKind.globalImplicit) ∈ fd204.scope.names := (mem_ix 8 (by kernel_rfl))
noncomputable def X211 : { b : Option FuncData // fdAt (objAt 211) = b } := by
  refine ⟨?b, ?h⟩
  rotate_left
  · conv => lhs; whnf
noncomputable def fd211 : FuncData := fdOf X211.1
noncomputable def Y211 : { b : List Stmt // bodyOf fd211 = b } := by
  refine ⟨?b, ?h⟩
  rotate_left
  · conv => lhs; whnf
noncomputable abbrev body211 : List Stmt := Y211.1
theorem fn211 (P : Params) : FnAt (HK P) 211 fd211 body211 [("self" : Str)] where
  obj := ⟨objAt 211, by kernel_rfl, by kernel_rfl⟩
  code := ⟨210, objAt 210, fieldsAt (objAt 210), tokAt (objAt 210), by kernel_rfl, by kernel_rfl, by kernel_rfl, by kernel_rfl⟩
  body := by kernel_rfl
  bind := ar1 fun v0 => by kernel_rfl
  glob := by kernel_rfl
  bi := by kernel_rfl
  kind := by kernel_rfl
  co := by kernel_rfl
  gen := by kernel_rfl
  nd := nodup_codes [19343873802062508018630758, 9223860220262875252, 40566985603368214869966611021925, 1645556343454297898045241186419815524017517300752288239318990962, 784674383097999584392255952902879695407911243455563563129, 3451057469997504525074899064611578716662529302049941013980536387928114, 9223847026089787502, 40566714804104525113073476829299] (by kernel_rfl) (by decide +kernel)
  dbg := dbg_codes [19343873802062508018630758, 9223860220262875252, 40566985603368214869966611021925, 1645556343454297898045241186419815524017517300752288239318990962, 784674383097999584392255952902879695407911243455563563129, 3451057469997504525074899064611578716662529302049941013980536387928114, 9223847026089787502, 40566714804104525113073476829299] (by kernel_rfl) (by decide +kernel)
theorem loc211 : [("self" : Str)] ++ [("out" : Str), ("place" : Str)] = locsOf fd211 := by kernel_rfl
theorem noc211 : fd211.scope.names.all (·.2 != .cell) = true := by kernel_rfl
theorem clo211 : fd211.closure = [] := by kernel_rfl
theorem g211_BuildOrder : (("BuildOrder" : Str), NameKind.globalImplicit) ∈ fd211.scope.names := (mem_ix 3 (by kernel_rfl))
theorem g211_bytearray : (("bytearray" : Str), NameKind.globalImplicit) ∈ fd211.scope.names := (mem_ix 4 (by kernel_rfl))
theorem g211_put_fixed32 : (("put_fixed32" : Str), NameKind.globalImplicit) ∈ fd211.scope.names := (mem_ix 5 (by kernel_rfl))
theorem g211_len : (("len" : Str), NameKind.globalImplicit) ∈ fd211.scope.names := (mem_ix 6 (by kernel_rfl))
theorem g211_bytes : (("bytes" : Str), NameKind.globalImplicit) ∈ fd211.scope.names := (mem_ix 7 (by kernel_rfl))
noncomputable def X232 : { b : Option FuncData // fdAt (objAt 232) = b } := by
  refine ⟨?b, ?h⟩
  rotate_left
  · conv => lhs; whnf
noncomputable def fd232 : FuncData := fdOf X232.1
noncomputable def Y232 : { b : List Stmt // bodyOf fd232 = b } := by
  refine ⟨?b, ?h⟩
  rotate_left
  · conv => lhs; whnf
noncomputable abbrev body232 : List Stmt := Y232.1
theorem fn232 (P : Params) : FnAt (HK P) 232 fd232 body232 [("self" : Str), ("data" : Str), ("order" : Str)] where
  obj := ⟨objAt 232, by kernel_rfl, by kernel_rfl⟩
  code := ⟨231, objAt 231, fieldsAt (objAt 231), tokAt (objAt 231), by kernel_rfl, by kernel_rfl, by kernel_rfl, by kernel_rfl⟩
  body := by kernel_rfl
  bind := ar3 fun v0 v1 v2 => by kernel_rfl
  glob := by kernel_rfl
  bi := by kernel_rfl
  kind := by kernel_rfl
  co := by kernel_rfl
  gen := by kernel_rfl
  nd := nodup_codes [19343873802062508018630758, 19343735451464363027726433, 40566966260610441281315088105586, 19343873802080100234035301, 40566734146825405231169789755508, 19343883025504913630167150, 40566985603368214869966611021925, 40566714804104525113073476829299, 9223847026089787502, 3451009750355141917908954508194956824268710851369304399108902901252211, 7237398977040225312508408110407164426370196815921713988574373163292986179634, 178411661322393607988641174981988051736068212, 40567024288892985502869412118629] (by kernel_rfl) (by decide +kernel)
  dbg := dbg_codes [19343873802062508018630758, 19343735451464363027726433, 40566966260610441281315088105586, 19343873802080100234035301, 40566734146825405231169789755508, 19343883025504913630167150, 40566985603368214869966611021925, 40566714804104525113073476829299, 9223847026089787502, 3451009750355141917908954508194956824268710851369304399108902901252211, 7237398977040225312508408110407164426370196815921713988574373163292986179634, 178411661322393607988641174981988051736068212, 40567024288892985502869412118629] (by kernel_rfl) (by decide +kernel)
theorem loc232 : [("self" : Str), ("data" : Str), ("order" : Str)] ++ [("size" : Str), ("count" : Str), ("turn" : Str), ("place" : Str)] = locsOf fd232 := by kernel_rfl
theorem noc232 : fd232.scope.names.all (·.2 != .cell) = true := by kernel_rfl
theorem clo232 : fd232.closure = [] := by kernel_rfl
theorem g232_bytes : (("bytes" : Str), NameKind.globalImplicit) ∈ fd232.scope.names := (mem_ix 7 (by kernel_rfl))
theorem g232_len : (("len" : Str), NameKind.globalImplicit) ∈ fd232.scope.names := (mem_ix 8 (by kernel_rfl))
theorem g232_ShortOctets : (("ShortOctets" : Str), NameKind.globalImplicit) ∈ fd232.scope.names := (mem_ix 9 (by kernel_rfl))
theorem g232_read_fixed32 : (("read_fixed32" : Str), NameKind.globalImplicit) ∈ fd232.scope.names := (mem_ix 10 (by kernel_rfl))
theorem g232_Corrupt : (("Corrupt" : Str), NameKind.globalImplicit) ∈ fd232.scope.names := (mem_ix 11 (by kernel_rfl))
theorem g232_range : (("range" : Str), NameKind.globalImplicit) ∈ fd232.scope.names := (mem_ix 12 (by kernel_rfl))
noncomputable def X239 : { b : Option FuncData // fdAt (objAt 239) = b } := by
  refine ⟨?b, ?h⟩
  rotate_left
  · conv => lhs; whnf
noncomputable def fd239 : FuncData := fdOf X239.1
noncomputable def Y239 : { b : List Stmt // bodyOf fd239 = b } := by
  refine ⟨?b, ?h⟩
  rotate_left
  · conv => lhs; whnf
noncomputable abbrev body239 : List Stmt := Y239.1
theorem fn239 (P : Params) : FnAt (HK P) 239 fd239 body239 [("self" : Str)] where
  obj := ⟨objAt 239, by kernel_rfl, by kernel_rfl⟩
  code := ⟨238, objAt 238, fieldsAt (objAt 238), tokAt (objAt 238), by kernel_rfl, by kernel_rfl, by kernel_rfl, by kernel_rfl⟩
  body := by kernel_rfl
  bind := ar1 fun v0 => by kernel_rfl
  glob := by kernel_rfl
  bi := by kernel_rfl
  kind := by kernel_rfl
  co := by kernel_rfl
  gen := by kernel_rfl
  nd := nodup_codes [19343873802062508018630758, 9223847026089787502] (by kernel_rfl) (by decide +kernel)
  dbg := dbg_codes [19343873802062508018630758, 9223847026089787502] (by kernel_rfl) (by decide +kernel)
theorem loc239 : [("self" : Str)] ++ [] = locsOf fd239 := by kernel_rfl
theorem noc239 : fd239.scope.names.all (·.2 != .cell) = true := by kernel_rfl
theorem clo239 : fd239.closure = [] := by kernel_rfl
theorem g239_len : (("len" : Str), NameKind.globalImplicit) ∈ fd239.scope.names := (.tail _ (.head _))
noncomputable def X246 : { b : Option FuncData // fdAt (objAt 246) = b } := by
  refine ⟨?b, ?h⟩
  rotate_left
  · conv => lhs; whnf
noncomputable def fd246 : FuncData := fdOf X246.1
noncomputable def Y246 : { b : List Stmt // bodyOf fd246 = b } := by
  refine ⟨?b, ?h⟩
  rotate_left
  · conv => lhs; whnf
noncomputable abbrev body246 : List Stmt := Y246.1
theorem fn246 (P : Params) : FnAt (HK P) 246 fd246 body246 [("self" : Str)] where
  obj := ⟨objAt 246, by kernel_rfl, by kernel_rfl⟩
  code := ⟨245, objAt 245, fieldsAt (objAt 245), tokAt (objAt 245), by kernel_rfl, by kernel_rfl, by kernel_rfl, by kernel_rfl⟩
  body := by kernel_rfl
  bind := ar1 fun v0 => by kernel_rfl
  glob := by kernel_rfl
  bi := by kernel_rfl
  kind := by kernel_rfl
  co := by kernel_rfl
  gen := by kernel_rfl
  nd := nodup_codes [19343873802062508018630758, 784662410474267291709549803729392302734138933333842722930] (by kernel_rfl) (by decide +kernel)
  dbg := dbg_codes [19343873802062508018630758, 784662410474267291709549803729392302734138933333842722930] (by kernel_rfl) (by decide +kernel)
theorem loc246 : [("self" : Str)] ++ [] = locsOf fd246 := by kernel_rfl
theorem noc246 : fd246.scope.names.all (·.2 != .cell) = true := by kernel_rfl
theorem clo246 : fd246.closure = [] := by kernel_rfl
theorem g246_BlockIter : (("BlockIter" : Str), NameKind.globalImplicit) ∈ fd246.scope.names := (.tail _ (.head _))
noncomputable def X253 : { b : Option FuncData // fdAt (objAt 253) = b } := by
  refine ⟨?b, ?h⟩
  rotate_left
  · conv => lhs; whnf
noncomputable def fd253 : FuncData := fdOf X253.1
noncomputable def Y253 : { b : List Stmt // bodyOf fd253 = b } := by
  refine ⟨?b, ?h⟩
  rotate_left
  · conv => lhs; whnf
noncomputable abbrev body253 : List Stmt := Y253.1
theorem fn253 (P : Params) : FnAt (HK P) 253 fd253 body253 [("self" : Str), ("at" : Str)] where
  obj := ⟨objAt 253, by kernel_rfl, by kernel_rfl⟩
  code := ⟨252, objAt 252, fieldsAt (objAt 252), tokAt (objAt 252), by kernel_rfl, by kernel_rfl, by kernel_rfl, by kernel_rfl⟩
  body := by kernel_rfl
  bind := ar2 fun v0 v1 => by kernel_rfl
  glob := by kernel_rfl
  bi := by kernel_rfl
  kind := by kernel_rfl
  co := by kernel_rfl
  gen := by kernel_rfl
  nd := nodup_codes [19343873802062508018630758, 4398249934964, 85075256686455109208547491624876245092, 40566985603368214869966611021925, 374165292663574741478685822846257157442428888678500, 85074972732662629765723842263604265064, 374165471068430411747224422131231358467359037718644, 9223816239783084132, 15177925739497862594577633085556605693945605697750796865968496364940243103559712818, 178411661322393607988641174981988051736068212] (by kernel_rfl) (by decide +kernel)
  dbg := dbg_codes [19343873802062508018630758, 4398249934964, 85075256686455109208547491624876245092, 40566985603368214869966611021925, 374165292663574741478685822846257157442428888678500, 85074972732662629765723842263604265064, 374165471068430411747224422131231358467359037718644, 9223816239783084132, 15177925739497862594577633085556605693945605697750796865968496364940243103559712818, 178411661322393607988641174981988051736068212] (by kernel_rfl) (by decide +kernel)
theorem loc253 : [("self" : Str), ("at" : Str)] ++ [("shared" : Str), ("place" : Str), ("unshared" : Str), ("length" : Str), ("value_at" : Str), ("end" : Str)] = locsOf fd253 := by kernel_rfl
theorem noc253 : fd253.scope.names.all (·.2 != .cell) = true := by kernel_rfl
theorem clo253 : fd253.closure = [] := by kernel_rfl
theorem g253_read_varint32 : (("read_varint32" : Str), NameKind.globalImplicit) ∈ fd253.scope.names := (mem_ix 8 (by kernel_rfl))
theorem g253_Corrupt : (("Corrupt" : Str), NameKind.globalImplicit) ∈ fd253.scope.names := (mem_ix 9 (by kernel_rfl))
noncomputable def X260 : { b : Option FuncData // fdAt (objAt 260) = b } := by
  refine ⟨?b, ?h⟩
  rotate_left
  · conv => lhs; whnf
noncomputable def fd260 : FuncData := fdOf X260.1
noncomputable def Y260 : { b : List Stmt // bodyOf fd260 = b } := by
  refine ⟨?b, ?h⟩
  rotate_left
  · conv => lhs; whnf
noncomputable abbrev body260 : List Stmt := Y260.1
theorem fn260 (P : Params) : FnAt (HK P) 260 fd260 body260 [("self" : Str), ("turn" : Str)] where
  obj := ⟨objAt 260, by kernel_rfl, by kernel_rfl⟩
  code := ⟨259, objAt 259, fieldsAt (objAt 259), tokAt (objAt 259), by kernel_rfl, by kernel_rfl, by kernel_rfl, by kernel_rfl⟩
  body := by kernel_rfl
  bind := ar2 fun v0 v1 => by kernel_rfl
  glob := by kernel_rfl
  bi := by kernel_rfl
  kind := by kernel_rfl
  co := by kernel_rfl
  gen := by kernel_rfl
  nd := nodup_codes [19343873802062508018630758, 19343883025504913630167150, 85075256686455109208547491624876245092, 40566985603368214869966611021925, 374165471068430411747224422131231358467359037718644, 9223816239783084132, 178411661322393607988641174981988051736068212] (by kernel_rfl) (by decide +kernel)
  dbg := dbg_codes [19343873802062508018630758, 19343883025504913630167150, 85075256686455109208547491624876245092, 40566985603368214869966611021925, 374165471068430411747224422131231358467359037718644, 9223816239783084132, 178411661322393607988641174981988051736068212] (by kernel_rfl) (by decide +kernel)
theorem loc260 : [("self" : Str), ("turn" : Str)] ++ [("shared" : Str), ("place" : Str), ("value_at" : Str), ("end" : Str)] = locsOf fd260 := by kernel_rfl
theorem noc260 : fd260.scope.names.all (·.2 != .cell) = true := by kernel_rfl
theorem clo260 : fd260.closure = [] := by kernel_rfl
theorem g260_Corrupt : (("Corrupt" : Str), NameKind.globalImplicit) ∈ fd260.scope.names := (mem_ix 6 (by kernel_rfl))
noncomputable def X281 : { b : Option FuncData // fdAt (objAt 281) = b } := by
  refine ⟨?b, ?h⟩
  rotate_left
  · conv => lhs; whnf
noncomputable def fd281 : FuncData := fdOf X281.1
noncomputable def Y281 : { b : List Stmt // bodyOf fd281 = b } := by
  refine ⟨?b, ?h⟩
  rotate_left
  · conv => lhs; whnf
noncomputable abbrev body281 : List Stmt := Y281.1
theorem fn281 (P : Params) : FnAt (HK P) 281 fd281 body281 [("self" : Str), ("block" : Str)] where
  obj := ⟨objAt 281, by kernel_rfl, by kernel_rfl⟩
  code := ⟨280, objAt 280, fieldsAt (objAt 280), tokAt (objAt 280), by kernel_rfl, by kernel_rfl, by kernel_rfl, by kernel_rfl⟩
  body := by kernel_rfl
  bind := ar2 fun v0 v1 => by kernel_rfl
  glob := by kernel_rfl
  bi := by kernel_rfl
  kind := by kernel_rfl
  co := by kernel_rfl
  gen := by kernel_rfl
  nd := nodup_codes [19343873802062508018630758, 40566714803984621254604127993963] (by kernel_rfl) (by decide +kernel)
  dbg := dbg_codes [19343873802062508018630758, 40566714803984621254604127993963] (by kernel_rfl) (by decide +kernel)
theorem loc281 : [("self" : Str), ("block" : Str)] ++ [] = locsOf fd281 := by kernel_rfl
theorem noc281 : fd281.scope.names.all (·.2 != .cell) = true := by kernel_rfl
theorem clo281 : fd281.closure = [] := by kernel_rfl
noncomputable def X288 : { b : Option FuncData // fdAt (objAt 288) = b } := by
  refine ⟨?b, ?h⟩
  rotate_left
  · conv => lhs; whnf
noncomputable def fd288 : FuncData := fdOf X288.1
noncomputable def Y288 : { b : List Stmt // bodyOf fd288 = b } := by
  refine ⟨?b, ?h⟩
  rotate_left
  · conv => lhs; whnf
noncomputable abbrev body288 : List Stmt := Y288.1
theorem fn288 (P : Params) : FnAt (HK P) 288 fd288 body288 [("self" : Str)] where
  obj := ⟨objAt 288, by kernel_rfl, by kernel_rfl⟩
  code := ⟨287, objAt 287, fieldsAt (objAt 287), tokAt (objAt 287), by kernel_rfl, by kernel_rfl, by kernel_rfl, by kernel_rfl⟩
  body := by kernel_rfl
  bind := ar1 fun v0 => by kernel_rfl
  glob := by kernel_rfl
  bi := by kernel_rfl
  kind := by kernel_rfl
  co := by kernel_rfl
  gen := by kernel_rfl
  nd := nodup_codes [19343873802062508018630758] (by kernel_rfl) (by decide +kernel)
  dbg := dbg_codes [19343873802062508018630758] (by kernel_rfl) (by decide +kernel)
theorem loc288 : [("self" : Str)] ++ [] = locsOf fd288 := by kernel_rfl
theorem noc288 : fd288.scope.names.all (·.2 != .cell) = true := by kernel_rfl
theorem clo288 : fd288.closure = [] := by kernel_rfl
noncomputable def X295 : { b : Option FuncData // fdAt (objAt 295) = b } := by
  refine ⟨?b, ?h⟩
  rotate_left
  · conv => lhs; whnf
noncomputable def fd295 : FuncData := fdOf X295.1
noncomputable def Y295 : { b : List Stmt // bodyOf fd295 = b } := by
  refine ⟨?b, ?h⟩
  rotate_left
  · conv => lhs; whnf
noncomputable abbrev body295 : List Stmt := Y295.1
theorem fn295 (P : Params) : FnAt (HK P) 295 fd295 body295 [("self" : Str)] where
  obj := ⟨objAt 295, by kernel_rfl, by kernel_rfl⟩
  code := ⟨294, objAt 294, fieldsAt (objAt 294), tokAt (objAt 294), by kernel_rfl, by kernel_rfl, by kernel_rfl, by kernel_rfl⟩
  body := by kernel_rfl
  bind := ar1 fun v0 => by kernel_rfl
  glob := by kernel_rfl
  bi := by kernel_rfl
  kind := by kernel_rfl
  co := by kernel_rfl
  gen := by kernel_rfl
  nd := nodup_codes [19343873802062508018630758, 1645561835917942216258129495658138137948153405541064772872568933] (by kernel_rfl) (by decide +kernel)
  dbg := dbg_codes [19343873802062508018630758, 1645561835917942216258129495658138137948153405541064772872568933] (by kernel_rfl) (by decide +kernel)
theorem loc295 : [("self" : Str)] ++ [] = locsOf fd295 := by kernel_rfl
theorem noc295 : fd295.scope.names.all (·.2 != .cell) = true := by kernel_rfl
theorem clo295 : fd295.closure = [] := by kernel_rfl
theorem g295_IterMisuse : (("IterMisuse" : Str), NameKind.globalImplicit) ∈ fd295.scope.names := (.tail _ (.head _))
noncomputable def X302 : { b : Option FuncData // fdAt (objAt 302) = b } := by
  refine ⟨?b, ?h⟩
  rotate_left
  · conv => lhs; whnf
noncomputable def fd302 : FuncData := fdOf X302.1
noncomputable def Y302 : { b : List Stmt // bodyOf fd302 = b } := by
  refine ⟨?b, ?h⟩
  rotate_left
  · conv => lhs; whnf
noncomputable abbrev body302 : List Stmt := Y302.1
theorem fn302 (P : Params) : FnAt (HK P) 302 fd302 body302 [("self" : Str)] where
  obj := ⟨objAt 302, by kernel_rfl, by kernel_rfl⟩
  code := ⟨301, objAt 301, fieldsAt (objAt 301), tokAt (objAt 301), by kernel_rfl, by kernel_rfl, by kernel_rfl, by kernel_rfl⟩
  body := by kernel_rfl
  bind := ar1 fun v0 => by kernel_rfl
  glob := by kernel_rfl
  bi := by kernel_rfl
  kind := by kernel_rfl
  co := by kernel_rfl
  gen := by kernel_rfl
  nd := nodup_codes [19343873802062508018630758] (by kernel_rfl) (by decide +kernel)
  dbg := dbg_codes [19343873802062508018630758] (by kernel_rfl) (by decide +kernel)
theorem loc302 : [("self" : Str)] ++ [] = locsOf fd302 := by kernel_rfl
theorem noc302 : fd302.scope.names.all (·.2 != .cell) = true := by kernel_rfl
theorem clo302 : fd302.closure = [] := by kernel_rfl
noncomputable def X309 : { b : Option FuncData // fdAt (objAt 309) = b } := by
  refine ⟨?b, ?h⟩
  rotate_left
  · conv => lhs; whnf
noncomputable def fd309 : FuncData := fdOf X309.1
noncomputable def Y309 : { b : List Stmt // bodyOf fd309 = b } := by
  refine ⟨?b, ?h⟩
  rotate_left
  · conv => lhs; whnf
noncomputable abbrev body309 : List Stmt := Y309.1
theorem fn309 (P : Params) : FnAt (HK P) 309 fd309 body309 [("self" : Str)] where
  obj := ⟨objAt 309, by kernel_rfl, by kernel_rfl⟩
  code := ⟨308, objAt 308, fieldsAt (objAt 308), tokAt (objAt 308), by kernel_rfl, by kernel_rfl, by kernel_rfl, by kernel_rfl⟩
  body := by kernel_rfl
  bind := ar1 fun v0 => by kernel_rfl
  glob := by kernel_rfl
  bi := by kernel_rfl
  kind := by kernel_rfl
  co := by kernel_rfl
  gen := by kernel_rfl
  nd := nodup_codes [19343873802062508018630758] (by kernel_rfl) (by decide +kernel)
  dbg := dbg_codes [19343873802062508018630758] (by kernel_rfl) (by decide +kernel)
theorem loc309 : [("self" : Str)] ++ [] = locsOf fd309 := by kernel_rfl
theorem noc309 : fd309.scope.names.all (·.2 != .cell) = true := by kernel_rfl
theorem clo309 : fd309.closure = [] := by kernel_rfl
noncomputable def X316 : { b : Option FuncData // fdAt (objAt 316) = b } := by
  refine ⟨?b, ?h⟩
  rotate_left
  · conv => lhs; whnf
noncomputable def fd316 : FuncData := fdOf X316.1
noncomputable def Y316 : { b : List Stmt // bodyOf fd316 = b } := by
  refine ⟨?b, ?h⟩
  rotate_left
  · conv => lhs; whnf
noncomputable abbrev body316 : List Stmt := Y316.1
theorem fn316 (P : Params) : FnAt (HK P) 316 fd316 body316 [("self" : Str)] where
  obj := ⟨objAt 316, by kernel_rfl, by kernel_rfl⟩
  code := ⟨315, objAt 315, fieldsAt (objAt 315), tokAt (objAt 315), by kernel_rfl, by kernel_rfl, by kernel_rfl, by kernel_rfl⟩
  body := by kernel_rfl
  bind := ar1 fun v0 => by kernel_rfl
  glob := by kernel_rfl
  bi := by kernel_rfl
  kind := by kernel_rfl
  co := by kernel_rfl
  gen := by kernel_rfl
  nd := nodup_codes [19343873802062508018630758] (by kernel_rfl) (by decide +kernel)
  dbg := dbg_codes [19343873802062508018630758] (by kernel_rfl) (by decide +kernel)
theorem loc316 : [("self" : Str)] ++ [] = locsOf fd316 := by kernel_rfl
theorem noc316 : fd316.scope.names.all (·.2 != .cell) = true := by kernel_rfl
theorem clo316 : fd316.closure = [] := by kernel_rfl
noncomputable def X323 : { b : Option FuncData // fdAt (objAt 323) = b } := by
  refine ⟨?b, ?h⟩
  rotate_left
  · conv => lhs; whnf
noncomputable def fd323 : FuncData := fdOf X323.1
noncomputable def Y323 : { b : List Stmt // bodyOf fd323 = b } := by
  refine ⟨?b, ?h⟩
  rotate_left
  · conv => lhs; whnf
noncomputable abbrev body323 : List Stmt := Y323.1
theorem fn323 (P : Params) : FnAt (HK P) 323 fd323 body323 [("self" : Str), ("turn" : Str)] where
  obj := ⟨objAt 323, by kernel_rfl, by kernel_rfl⟩
  code := ⟨322, objAt 322, fieldsAt (objAt 322), tokAt (objAt 322), by kernel_rfl, by kernel_rfl, by kernel_rfl, by kernel_rfl⟩
  body := by kernel_rfl
  bind := ar2 fun v0 v1 => by kernel_rfl
  glob := by kernel_rfl
  bi := by kernel_rfl
  kind := by kernel_rfl
  co := by kernel_rfl
  gen := by kernel_rfl
  nd := nodup_codes [19343873802062508018630758, 19343883025504913630167150] (by kernel_rfl) (by decide +kernel)
  dbg := dbg_codes [19343873802062508018630758, 19343883025504913630167150] (by kernel_rfl) (by decide +kernel)
theorem loc323 : [("self" : Str), ("turn" : Str)] ++ [] = locsOf fd323 := by kernel_rfl
theorem noc323 : fd323.scope.names.all (·.2 != .cell) = true := by kernel_rfl
theorem clo323 : fd323.closure = [] := by kernel_rfl
noncomputable def X330 : { b : Option FuncData // fdAt (objAt 330) = b } := by
  refine ⟨?b, ?h⟩
  rotate_left
  · conv => lhs; whnf
noncomputable def fd330 : FuncData := fdOf X330.1
noncomputable def Y330 : { b : List Stmt // bodyOf fd330 = b } := by
  refine ⟨?b, ?h⟩
  rotate_left
  · conv => lhs; whnf
noncomputable abbrev body330 : List Stmt := Y330.1
theorem fn330 (P : Params) : FnAt (HK P) 330 fd330 body330 [("self" : Str)] where
  obj := ⟨objAt 330, by kernel_rfl, by kernel_rfl⟩
  code := ⟨329, objAt 329, fieldsAt (objAt 329), tokAt (objAt 329), by kernel_rfl, by kernel_rfl, by kernel_rfl, by kernel_rfl⟩
  body := by kernel_rfl
  bind := ar1 fun v0 => by kernel_rfl
  glob := by kernel_rfl
  bi := by kernel_rfl
  kind := by kernel_rfl
  co := by kernel_rfl
  gen := by kernel_rfl
  nd := nodup_codes [19343873802062508018630758, 40567043631881343348461866582132, 85074567084470556658528422208108232805, 85075256686455109208547491624876245092, 40566985603368214869966611021925, 374165471068430411747224422131231358467359037718644, 9223816239783084132, 374164757444924341418158546559983387023832841715827, 9223847026089787502, 178411661322393607988641174981988051736068212] (by kernel_rfl) (by decide +kernel)
  dbg := dbg_codes [19343873802062508018630758, 40567043631881343348461866582132, 85074567084470556658528422208108232805, 85075256686455109208547491624876245092, 40566985603368214869966611021925, 374165471068430411747224422131231358467359037718644, 9223816239783084132, 374164757444924341418158546559983387023832841715827, 9223847026089787502, 178411661322393607988641174981988051736068212] (by kernel_rfl) (by decide +kernel)
theorem loc330 : [("self" : Str)] ++ [("start" : Str), ("before" : Str), ("shared" : Str), ("place" : Str), ("value_at" : Str), ("end" : Str), ("restarts" : Str)] = locsOf fd330 := by kernel_rfl
theorem noc330 : fd330.scope.names.all (·.2 != .cell) = true := by kernel_rfl
theorem clo330 : fd330.closure = [] := by kernel_rfl
theorem g330_len : (("len" : Str), NameKind.globalImplicit) ∈ fd330.scope.names := (mem_ix 8 (by kernel_rfl))
theorem g330_Corrupt : (("Corrupt" : Str), NameKind.globalImplicit) ∈ fd330.scope.names := (mem_ix 9 (by kernel_rfl))
noncomputable def X337 : { b : Option FuncData // fdAt (objAt 337) = b } := by
  refine ⟨?b, ?h⟩
  rotate_left
  · conv => lhs; whnf
noncomputable def fd337 : FuncData := fdOf X337.1
noncomputable def Y337 : { b : List Stmt // bodyOf fd337 = b } := by
  refine ⟨?b, ?h⟩
  rotate_left
  · conv => lhs; whnf
noncomputable abbrev body337 : List Stmt := Y337.1
theorem fn337 (P : Params) : FnAt (HK P) 337 fd337 body337 [("self" : Str)] where
  obj := ⟨objAt 337, by kernel_rfl, by kernel_rfl⟩
  code := ⟨336, objAt 336, fieldsAt (objAt 336), tokAt (objAt 336), by kernel_rfl, by kernel_rfl, by kernel_rfl, by kernel_rfl⟩
  body := by kernel_rfl
  bind := ar1 fun v0 => by kernel_rfl
  glob := by kernel_rfl
  bi := by kernel_rfl
  kind := by kernel_rfl
  co := by kernel_rfl
  gen := by kernel_rfl
  nd := nodup_codes [19343873802062508018630758] (by kernel_rfl) (by decide +kernel)
  dbg := dbg_codes [19343873802062508018630758] (by kernel_rfl) (by decide +kernel)
theorem loc337 : [("self" : Str)] ++ [] = locsOf fd337 := by kernel_rfl
theorem noc337 : fd337.scope.names.all (·.2 != .cell) = true := by kernel_rfl
theorem clo337 : fd337.closure = [] := by kernel_rfl
noncomputable def X344 : { b : Option FuncData // fdAt (objAt 344) = b } := by
  refine ⟨?b, ?h⟩
  rotate_left
  · conv => lhs; whnf
noncomputable def fd344 : FuncData := fdOf X344.1
noncomputable def Y344 : { b : List Stmt // bodyOf fd344 = b } := by
  refine ⟨?b, ?h⟩
  rotate_left
  · conv => lhs; whnf
noncomputable abbrev body344 : List Stmt := Y344.1
theorem fn344 (P : Params) : FnAt (HK P) 344 fd344 body344 [("self" : Str)] where
  obj := ⟨objAt 344, by kernel_rfl, by kernel_rfl⟩
  code := ⟨343, objAt 343, fieldsAt (objAt 343), tokAt (objAt 343), by kernel_rfl, by kernel_rfl, by kernel_rfl, by kernel_rfl⟩
  body := by kernel_rfl
  bind := ar1 fun v0 => by kernel_rfl
  glob := by kernel_rfl
  bi := by kernel_rfl
  kind := by kernel_rfl
  co := by kernel_rfl
  gen := by kernel_rfl
  nd := nodup_codes [19343873802062508018630758, 9223847026089787502] (by kernel_rfl) (by decide +kernel)
  dbg := dbg_codes [19343873802062508018630758, 9223847026089787502] (by kernel_rfl) (by decide +kernel)
theorem loc344 : [("self" : Str)] ++ [] = locsOf fd344 := by kernel_rfl
theorem noc344 : fd344.scope.names.all (·.2 != .cell) = true := by kernel_rfl
theorem clo344 : fd344.closure = [] := by kernel_rfl
theorem g344_len : (("len" : Str), NameKind.globalImplicit) ∈ fd344.scope.names := (.tail _ (.head _))
noncomputable def X351 : { b : Option FuncData // fdAt (objAt 351) = b } := by
  refine ⟨?b, ?h⟩
  rotate_left
  · conv => lhs; whnf
noncomputable def fd351 : FuncData := fdOf X351.1
noncomputable def Y351 : { b : List Stmt // bodyOf fd351 = b } := by
  refine ⟨?b, ?h⟩
  rotate_left
  · conv => lhs; whnf
noncomputable abbrev body351 : List Stmt := Y351.1
theorem fn351 (P : Params) : FnAt (HK P) 351 fd351 body351 [("self" : Str), ("target" : Str)] where
  obj := ⟨objAt 351, by kernel_rfl, by kernel_rfl⟩
  code := ⟨350, objAt 350, fieldsAt (objAt 350), tokAt (objAt 350), by kernel_rfl, by kernel_rfl, by kernel_rfl, by kernel_rfl⟩
  body := by kernel_rfl
  bind := ar2 fun v0 v1 => by kernel_rfl
  glob := by kernel_rfl
  bi := by kernel_rfl
  kind := by kernel_rfl
  co := by kernel_rfl
  gen := by kernel_rfl
  nd := nodup_codes [19343873802062508018630758, 85075297251138916976888777299831292020, 178411661322393607988641174981988051736068212] (by kernel_rfl) (by decide +kernel)
  dbg := dbg_codes [19343873802062508018630758, 85075297251138916976888777299831292020, 178411661322393607988641174981988051736068212] (by kernel_rfl) (by decide +kernel)
theorem loc351 : [("self" : Str), ("target" : Str)] ++ [] = locsOf fd351 := by kernel_rfl
theorem noc351 : fd351.scope.names.all (·.2 != .cell) = true := by kernel_rfl
theorem clo351 : fd351.closure = [] := by kernel_rfl
theorem g351_Corrupt : (("Corrupt" : Str), NameKind.globalImplicit) ∈ fd351.scope.names := (.tail _ (.tail _ (.head _)))
noncomputable def X358 : { b : Option FuncData // fdAt (objAt 358) = b } := by
  refine ⟨?b, ?h⟩
  rotate_left
  · conv => lhs; whnf
noncomputable def fd358 : FuncData := fdOf X358.1
noncomputable def Y358 : { b : List Stmt // bodyOf fd358 = b } := by
  refine ⟨?b, ?h⟩
  rotate_left
  · conv => lhs; whnf
noncomputable abbrev body358 : List Stmt := Y358.1
theorem fn358 (P : Params) : FnAt (HK P) 358 fd358 body358 [("self" : Str), ("target" : Str)] where
  obj := ⟨objAt 358, by kernel_rfl, by kernel_rfl⟩
  code := ⟨357, objAt 357, fieldsAt (objAt 357), tokAt (objAt 357), by kernel_rfl, by kernel_rfl, by kernel_rfl, by kernel_rfl⟩
  body := by kernel_rfl
  bind := ar2 fun v0 v1 => by kernel_rfl
  glob := by kernel_rfl
  bi := by kernel_rfl
  kind := by kernel_rfl
  co := by kernel_rfl
  gen := by kernel_rfl
  nd := nodup_codes [19343873802062508018630758, 85075297251138916976888777299831292020, 19343809238458250022617204, 40567024288966772448377926844532, 19343873802080100187897957, 374164935852161987808930336295406074798620335407207, 85075013297559208229286292862583963749, 40566792175264746733370175651940, 9223847026089787502] (by kernel_rfl) (by decide +kernel)
  dbg := dbg_codes [19343873802062508018630758, 85075297251138916976888777299831292020, 19343809238458250022617204, 40567024288966772448377926844532, 19343873802080100187897957, 374164935852161987808930336295406074798620335407207, 85075013297559208229286292862583963749, 40566792175264746733370175651940, 9223847026089787502] (by kernel_rfl) (by decide +kernel)
theorem loc358 : [("self" : Str), ("target" : Str)] ++ [("left" : Str), ("right" : Str), ("side" : Str), ("standing" : Str), ("middle" : Str), ("found" : Str)] = locsOf fd358 := by kernel_rfl
theorem noc358 : fd358.scope.names.all (·.2 != .cell) = true := by kernel_rfl
theorem clo358 : fd358.closure = [] := by kernel_rfl
theorem g358_len : (("len" : Str), NameKind.globalImplicit) ∈ fd358.scope.names := (mem_ix 8 (by kernel_rfl))
noncomputable def X365 : { b : Option FuncData // fdAt (objAt 365) = b } := by
  refine ⟨?b, ?h⟩
  rotate_left
  · conv => lhs; whnf
noncomputable def fd365 : FuncData := fdOf X365.1
noncomputable def Y365 : { b : List Stmt // bodyOf fd365 = b } := by
  refine ⟨?b, ?h⟩
  rotate_left
  · conv => lhs; whnf
noncomputable abbrev body365 : List Stmt := Y365.1
theorem fn365 (P : Params) : FnAt (HK P) 365 fd365 body365 [("self" : Str)] where
  obj := ⟨objAt 365, by kernel_rfl, by kernel_rfl⟩
  code := ⟨364, objAt 364, fieldsAt (objAt 364), tokAt (objAt 364), by kernel_rfl, by kernel_rfl, by kernel_rfl, by kernel_rfl⟩
  body := by kernel_rfl
  bind := ar1 fun v0 => by kernel_rfl
  glob := by kernel_rfl
  bi := by kernel_rfl
  kind := by kernel_rfl
  co := by kernel_rfl
  gen := by kernel_rfl
  nd := nodup_codes [19343873802062508018630758] (by kernel_rfl) (by decide +kernel)
  dbg := dbg_codes [19343873802062508018630758] (by kernel_rfl) (by decide +kernel)
theorem loc365 : [("self" : Str)] ++ [] = locsOf fd365 := by kernel_rfl
theorem noc365 : fd365.scope.names.all (·.2 != .cell) = true := by kernel_rfl
theorem clo365 : fd365.closure = [] := by kernel_rfl
noncomputable def X372 : { b : Option FuncData // fdAt (objAt 372) = b } := by
  refine ⟨?b, ?h⟩
  rotate_left
  · conv => lhs; whnf
noncomputable def fd372 : FuncData := fdOf X372.1
noncomputable def Y372 : { b : List Stmt // bodyOf fd372 = b } := by
  refine ⟨?b, ?h⟩
  rotate_left
  · conv => lhs; whnf
noncomputable abbrev body372 : List Stmt := Y372.1
theorem fn372 (P : Params) : FnAt (HK P) 372 fd372 body372 [("self" : Str)] where
  obj := ⟨objAt 372, by kernel_rfl, by kernel_rfl⟩
  code := ⟨371, objAt 371, fieldsAt (objAt 371), tokAt (objAt 371), by kernel_rfl, by kernel_rfl, by kernel_rfl, by kernel_rfl⟩
  body := by kernel_rfl
  bind := ar1 fun v0 => by kernel_rfl
  glob := by kernel_rfl
  bi := by kernel_rfl
  kind := by kernel_rfl
  co := by kernel_rfl
  gen := by kernel_rfl
  nd := nodup_codes [19343873802062508018630758, 374164222228145493970047756179470709574199192584300, 19343883025504913630167150] (by kernel_rfl) (by decide +kernel)
  dbg := dbg_codes [19343873802062508018630758, 374164222228145493970047756179470709574199192584300, 19343883025504913630167150] (by kernel_rfl) (by decide +kernel)
theorem loc372 : [("self" : Str)] ++ [("original" : Str), ("turn" : Str)] = locsOf fd372 := by kernel_rfl
theorem noc372 : fd372.scope.names.all (·.2 != .cell) = true := by kernel_rfl
theorem clo372 : fd372.closure = [] := by kernel_rfl
noncomputable def X386 : { b : Option FuncData // fdAt (objAt 386) = b } := by
  refine ⟨?b, ?h⟩
  rotate_left
  · conv => lhs; whnf
noncomputable def fd386 : FuncData := fdOf X386.1
noncomputable def Y386 : { b : List Stmt // bodyOf fd386 = b } := by
  refine ⟨?b, ?h⟩
  rotate_left
  · conv => lhs; whnf
noncomputable abbrev body386 : List Stmt := Y386.1
theorem fn386 (P : Params) : FnAt (HK P) 386 fd386 body386 [("ik" : Str)] where
  obj := ⟨objAt 386, by kernel_rfl, by kernel_rfl⟩
  code := ⟨385, objAt 385, fieldsAt (objAt 385), tokAt (objAt 385), by kernel_rfl, by kernel_rfl, by kernel_rfl, by kernel_rfl⟩
  body := by kernel_rfl
  bind := ar1 fun v0 => by kernel_rfl
  glob := by kernel_rfl
  bi := by kernel_rfl
  kind := by kernel_rfl
  co := by kernel_rfl
  gen := by kernel_rfl
  nd := nodup_codes [4398266712171, 9223847026089787502, 1645570466913747002215007037379894745371709002006339020340068424, 178411661322393607988641174981988051736068212, 40566714804104525113073476829299] (by kernel_rfl) (by decide +kernel)
  dbg := dbg_codes [4398266712171, 9223847026089787502, 1645570466913747002215007037379894745371709002006339020340068424, 178411661322393607988641174981988051736068212, 40566714804104525113073476829299] (by kernel_rfl) (by decide +kernel)
theorem loc386 : [("ik" : Str)] ++ [] = locsOf fd386 := by kernel_rfl
theorem noc386 : fd386.scope.names.all (·.2 != .cell) = true := by kernel_rfl
theorem clo386 : fd386.closure = [] := by kernel_rfl
theorem g386_len : (("len" : Str), NameKind.globalImplicit) ∈ fd386.scope.names := (.tail _ (.head _))
theorem g386_TAG_LENGTH : (("TAG_LENGTH" : Str), NameKind.globalImplicit) ∈ fd386.scope.names := (.tail _ (.tail _ (.head _)))
theorem g386_Corrupt : (("Corrupt" : Str), NameKind.globalImplicit) ∈ fd386.scope.names := (mem_ix 3 (by kernel_rfl))
theorem g386_bytes : (("bytes" : Str), NameKind.globalImplicit) ∈ fd386.scope.names := (mem_ix 4 (by kernel_rfl))
noncomputable def X393 : { b : Option FuncData // fdAt (objAt 393) = b } := by
  refine ⟨?b, ?h⟩
  rotate_left
  · conv => lhs; whnf
noncomputable def fd393 : FuncData := fdOf X393.1
noncomputable def Y393 : { b : List Stmt // bodyOf fd393 = b } := by
  refine ⟨?b, ?h⟩
  rotate_left
  · conv => lhs; whnf
noncomputable abbrev body393 : List Stmt := Y393.1
theorem fn393 (P : Params) : FnAt (HK P) 393 fd393 body393 [("ik" : Str)] where
  obj := ⟨objAt 393, by kernel_rfl, by kernel_rfl⟩
  code := ⟨392, objAt 392, fieldsAt (objAt 392), tokAt (objAt 392), by kernel_rfl, by kernel_rfl, by kernel_rfl, by kernel_rfl⟩
  body := by kernel_rfl
  bind := ar1 fun v0 => by kernel_rfl
  glob := by kernel_rfl
  bi := by kernel_rfl
  kind := by kernel_rfl
  co := by kernel_rfl
  gen := by kernel_rfl
  nd := nodup_codes [4398266712171, 9223847026089787502, 1645570466913747002215007037379894745371709002006339020340068424, 178411661322393607988641174981988051736068212, 7237398977040225312508408110407164426370196815921713988574373163292992471092] (by kernel_rfl) (by decide +kernel)
  dbg := dbg_codes [4398266712171, 9223847026089787502, 1645570466913747002215007037379894745371709002006339020340068424, 178411661322393607988641174981988051736068212, 7237398977040225312508408110407164426370196815921713988574373163292992471092] (by kernel_rfl) (by decide +kernel)
theorem loc393 : [("ik" : Str)] ++ [] = locsOf fd393 := by kernel_rfl
theorem noc393 : fd393.scope.names.all (·.2 != .cell) = true := by kernel_rfl
theorem clo393 : fd393.closure = [] := by kernel_rfl
theorem g393_len : (("len" : Str), NameKind.globalImplicit) ∈ fd393.scope.names := (.tail _ (.head _))
theorem g393_TAG_LENGTH : (("TAG_LENGTH" : Str), NameKind.globalImplicit) ∈ fd393.scope.names := (.tail _ (.tail _ (.head _)))
theorem g393_Corrupt : (("Corrupt" : Str), NameKind.globalImplicit) ∈ fd393.scope.names := (mem_ix 3 (by kernel_rfl))
theorem g393_read_fixed64 : (("read_fixed64" : Str), NameKind.globalImplicit) ∈ fd393.scope.names := (mem_ix 4 (by kernel_rfl))
noncomputable def X407 : { b : Option FuncData // fdAt (objAt 407) = b } := by
  refine ⟨?b, ?h⟩
  rotate_left
  · conv => lhs; whnf
noncomputable def fd407 : FuncData := fdOf X407.1
noncomputable def Y407 : { b : List Stmt // bodyOf fd407 = b } := by
  refine ⟨?b, ?h⟩
  rotate_left
  · conv => lhs; whnf
noncomputable abbrev body407 : List Stmt := Y407.1
theorem fn407 (P : Params) : FnAt (HK P) 407 fd407 body407 [("self" : Str), ("a" : Str), ("b" : Str)] where
  obj := ⟨objAt 407, by kernel_rfl, by kernel_rfl⟩
  code := ⟨406, objAt 406, fieldsAt (objAt 406), tokAt (objAt 406), by kernel_rfl, by kernel_rfl, by kernel_rfl, by kernel_rfl⟩
  body := by kernel_rfl
  bind := ar3 fun v0 v1 v2 => by kernel_rfl
  glob := by kernel_rfl
  bi := by kernel_rfl
  kind := by kernel_rfl
  co := by kernel_rfl
  gen := by kernel_rfl
  nd := nodup_codes [19343873802062508018630758, 2097249, 2097250] (by kernel_rfl) (by decide +kernel)
  dbg := dbg_codes [19343873802062508018630758, 2097249, 2097250] (by kernel_rfl) (by decide +kernel)
theorem loc407 : [("self" : Str), ("a" : Str), ("b" : Str)] ++ [] = locsOf fd407 := by kernel_rfl
theorem noc407 : fd407.scope.names.all (·.2 != .cell) = true := by kernel_rfl
theorem clo407 : fd407.closure = [] := by kernel_rfl
noncomputable def X482 : { b : Option FuncData // fdAt (objAt 482) = b } := by
  refine ⟨?b, ?h⟩
  rotate_left
  · conv => lhs; whnf
noncomputable def fd482 : FuncData := fdOf X482.1
noncomputable def Y482 : { b : List Stmt // bodyOf fd482 = b } := by
  refine ⟨?b, ?h⟩
  rotate_left
  · conv => lhs; whnf
noncomputable abbrev body482 : List Stmt := Y482.1
theorem fn482 (P : Params) : FnAt (HK P) 482 fd482 body482 [("self" : Str)] where
  obj := ⟨objAt 482, by kernel_rfl, by kernel_rfl⟩
  code := ⟨481, objAt 481, fieldsAt (objAt 481), tokAt (objAt 481), by kernel_rfl, by kernel_rfl, by kernel_rfl, by kernel_rfl⟩
  body := by kernel_rfl
  bind := ar1 fun v0 => by kernel_rfl
  glob := by kernel_rfl
  bi := by kernel_rfl
  kind := by kernel_rfl
  co := by kernel_rfl
  gen := by kernel_rfl
  nd := nodup_codes [19343873802062508018630758, 1645556343455794477684333012985217294387160471764627138713485426] (by kernel_rfl) (by decide +kernel)
  dbg := dbg_codes [19343873802062508018630758, 1645556343455794477684333012985217294387160471764627138713485426] (by kernel_rfl) (by decide +kernel)
theorem loc482 : [("self" : Str)] ++ [] = locsOf fd482 := by kernel_rfl
theorem noc482 : fd482.scope.names.all (·.2 != .cell) = true := by kernel_rfl
theorem clo482 : fd482.closure = [] := by kernel_rfl
theorem g482_BytesOrder : (("BytesOrder" : Str), NameKind.globalImplicit) ∈ fd482.scope.names := (.tail _ (.head _))
noncomputable def X489 : { b : Option FuncData // fdAt (objAt 489) = b } := by
  refine ⟨?b, ?h⟩
  rotate_left
  · conv => lhs; whnf
noncomputable def fd489 : FuncData := fdOf X489.1
noncomputable def Y489 : { b : List Stmt // bodyOf fd489 = b } := by
  refine ⟨?b, ?h⟩
  rotate_left
  · conv => lhs; whnf
noncomputable abbrev body489 : List Stmt := Y489.1
theorem fn489 (P : Params) : FnAt (HK P) 489 fd489 body489 [("self" : Str), ("a" : Str), ("b" : Str)] where
  obj := ⟨objAt 489, by kernel_rfl, by kernel_rfl⟩
  code := ⟨488, objAt 488, fieldsAt (objAt 488), tokAt (objAt 488), by kernel_rfl, by kernel_rfl, by kernel_rfl, by kernel_rfl⟩
  body := by kernel_rfl
  bind := ar3 fun v0 v1 v2 => by kernel_rfl
  glob := by kernel_rfl
  bi := by kernel_rfl
  kind := by kernel_rfl
  co := by kernel_rfl
  gen := by kernel_rfl
  nd := nodup_codes [19343873802062508018630758, 2097249, 2097250, 2097251, 40567062974519213140216660361313, 40567062974519213140216660361314, 178415914852142378744807110048032901484773478, 85075297251138916875431649710077640806] (by kernel_rfl) (by decide +kernel)
  dbg := dbg_codes [19343873802062508018630758, 2097249, 2097250, 2097251, 40567062974519213140216660361313, 40567062974519213140216660361314, 178415914852142378744807110048032901484773478, 85075297251138916875431649710077640806] (by kernel_rfl) (by decide +kernel)
theorem loc489 : [("self" : Str), ("a" : Str), ("b" : Str)] ++ [("c" : Str), ("tag_a" : Str), ("tag_b" : Str)] = locsOf fd489 := by kernel_rfl
theorem noc489 : fd489.scope.names.all (·.2 != .cell) = true := by kernel_rfl
theorem clo489 : fd489.closure = [] := by kernel_rfl
theorem g489_user_of : (("user_of" : Str), NameKind.globalImplicit) ∈ fd489.scope.names := (mem_ix 6 (by kernel_rfl))
theorem g489_tag_of : (("tag_of" : Str), NameKind.globalImplicit) ∈ fd489.scope.names := (mem_ix 7 (by kernel_rfl))
noncomputable def X529 : { b : Option FuncData // fdAt (objAt 529) = b } := by
  refine ⟨?b, ?h⟩
  rotate_left
  · conv => lhs; whnf
noncomputable def fd529 : FuncData := fdOf X529.1
noncomputable def Y529 : { b : List Stmt // bodyOf fd529 = b } := by
  refine ⟨?b, ?h⟩
  rotate_left
  · conv => lhs; whnf
noncomputable abbrev body529 : List Stmt := Y529.1
theorem fn529 (P : Params) : FnAt (HK P) 529 fd529 body529 [("nums" : Str), ("i" : Str)] where
  obj := ⟨objAt 529, by kernel_rfl, by kernel_rfl⟩
  code := ⟨528, objAt 528, fieldsAt (objAt 528), tokAt (objAt 528), by kernel_rfl, by kernel_rfl, by kernel_rfl, by kernel_rfl⟩
  body := by kernel_rfl
  bind := ar2 fun v0 v1 => by kernel_rfl
  glob := by kernel_rfl
  bi := by kernel_rfl
  kind := by kernel_rfl
  co := by kernel_rfl
  gen := by kernel_rfl
  nd := nodup_codes [19343827685272692491026547, 2097257, 9223847026089787502] (by kernel_rfl) (by decide +kernel)
  dbg := dbg_codes [19343827685272692491026547, 2097257, 9223847026089787502] (by kernel_rfl) (by decide +kernel)
theorem loc529 : [("nums" : Str), ("i" : Str)] ++ [] = locsOf fd529 := by kernel_rfl
theorem noc529 : fd529.scope.names.all (·.2 != .cell) = true := by kernel_rfl
theorem clo529 : fd529.closure = [] := by kernel_rfl
theorem g529_len : (("len" : Str), NameKind.globalImplicit) ∈ fd529.scope.names := (.tail _ (.tail _ (.head _)))
noncomputable def X536 : { b : Option FuncData // fdAt (objAt 536) = b } := by
  refine ⟨?b, ?h⟩
  rotate_left
  · conv => lhs; whnf
noncomputable def fd536 : FuncData := fdOf X536.1
noncomputable def Y536 : { b : List Stmt // bodyOf fd536 = b } := by
  refine ⟨?b, ?h⟩
  rotate_left
  · conv => lhs; whnf
noncomputable abbrev body536 : List Stmt := Y536.1
theorem fn536 (P : Params) : FnAt (HK P) 536 fd536 body536 [("v" : Str)] where
  obj := ⟨objAt 536, by kernel_rfl, by kernel_rfl⟩
  code := ⟨535, objAt 535, fieldsAt (objAt 535), tokAt (objAt 535), by kernel_rfl, by kernel_rfl, by kernel_rfl, by kernel_rfl⟩
  body := by kernel_rfl
  bind := ar1 fun v0 => by kernel_rfl
  glob := by kernel_rfl
  bi := by kernel_rfl
  kind := by kernel_rfl
  co := by kernel_rfl
  gen := by kernel_rfl
  nd := nodup_codes [2097270, 40566714804104525113073476829299] (by kernel_rfl) (by decide +kernel)
  dbg := dbg_codes [2097270, 40566714804104525113073476829299] (by kernel_rfl) (by decide +kernel)
theorem loc536 : [("v" : Str)] ++ [] = locsOf fd536 := by kernel_rfl
theorem noc536 : fd536.scope.names.all (·.2 != .cell) = true := by kernel_rfl
theorem clo536 : fd536.closure = [] := by kernel_rfl
theorem g536_bytes : (("bytes" : Str), NameKind.globalImplicit) ∈ fd536.scope.names := (.tail _ (.head _))
noncomputable def X543 : { b : Option FuncData // fdAt (objAt 543) = b } := by
  refine ⟨?b, ?h⟩
  rotate_left
  · conv => lhs; whnf
noncomputable def fd543 : FuncData := fdOf X543.1
noncomputable def Y543 : { b : List Stmt // bodyOf fd543 = b } := by
  refine ⟨?b, ?h⟩
  rotate_left
  · conv => lhs; whnf
noncomputable abbrev body543 : List Stmt := Y543.1
theorem fn543 (P : Params) : FnAt (HK P) 543 fd543 body543 [("v" : Str), ("half" : Str), ("internal" : Str)] where
  obj := ⟨objAt 543, by kernel_rfl, by kernel_rfl⟩
  code := ⟨542, objAt 542, fieldsAt (objAt 542), tokAt (objAt 542), by kernel_rfl, by kernel_rfl, by kernel_rfl, by kernel_rfl⟩
  body := by kernel_rfl
  bind := ar3 fun v0 v1 v2 => by kernel_rfl
  glob := by kernel_rfl
  bi := by kernel_rfl
  kind := by kernel_rfl
  co := by kernel_rfl
  gen := by kernel_rfl
  nd := nodup_codes [2097270, 19343772344952510430052454, 374163151792035682579428996596323779852452767989868, 9223877812415365233, 784673260662422835141827074958457799031191773759475286116, 40566714804104525113073476829299] (by kernel_rfl) (by decide +kernel)
  dbg := dbg_codes [2097270, 19343772344952510430052454, 374163151792035682579428996596323779852452767989868, 9223877812415365233, 784673260662422835141827074958457799031191773759475286116, 40566714804104525113073476829299] (by kernel_rfl) (by decide +kernel)
theorem loc543 : [("v" : Str), ("half" : Str), ("internal" : Str)] ++ [("seq" : Str)] = locsOf fd543 := by kernel_rfl
theorem noc543 : fd543.scope.names.all (·.2 != .cell) = true := by kernel_rfl
theorem clo543 : fd543.closure = [] := by kernel_rfl
theorem g543__law_word : (("_law_word" : Str), NameKind.globalImplicit) ∈ fd543.scope.names := (mem_ix 4 (by kernel_rfl))
theorem g543_bytes : (("bytes" : Str), NameKind.globalImplicit) ∈ fd543.scope.names := (mem_ix 5 (by kernel_rfl))
noncomputable def X550 : { b : Option FuncData // fdAt (objAt 550) = b } := by
  refine ⟨?b, ?h⟩
  rotate_left
  · conv => lhs; whnf
noncomputable def fd550 : FuncData := fdOf X550.1
noncomputable def Y550 : { b : List Stmt // bodyOf fd550 = b } := by
  refine ⟨?b, ?h⟩
  rotate_left
  · conv => lhs; whnf
noncomputable abbrev body550 : List Stmt := Y550.1
theorem fn550 (P : Params) : FnAt (HK P) 550 fd550 body550 [("n" : Str)] where
  obj := ⟨objAt 550, by kernel_rfl, by kernel_rfl⟩
  code := ⟨549, objAt 549, fieldsAt (objAt 549), tokAt (objAt 549), by kernel_rfl, by kernel_rfl, by kernel_rfl, by kernel_rfl⟩
  body := by kernel_rfl
  bind := ar1 fun v0 => by kernel_rfl
  glob := by kernel_rfl
  bi := by kernel_rfl
  kind := by kernel_rfl
  co := by kernel_rfl
  gen := by kernel_rfl
  nd := nodup_codes [2097262, 40566714804104525113073476829299] (by kernel_rfl) (by decide +kernel)
  dbg := dbg_codes [2097262, 40566714804104525113073476829299] (by kernel_rfl) (by decide +kernel)
theorem loc550 : [("n" : Str)] ++ [] = locsOf fd550 := by kernel_rfl
theorem noc550 : fd550.scope.names.all (·.2 != .cell) = true := by kernel_rfl
theorem clo550 : fd550.closure = [] := by kernel_rfl
theorem g550_bytes : (("bytes" : Str), NameKind.globalImplicit) ∈ fd550.scope.names := (.tail _ (.head _))
noncomputable def X562 : { b : Option FuncData // fdAt (objAt 562) = b } := by
  refine ⟨?b, ?h⟩
  rotate_left
  · conv => lhs; whnf
noncomputable def fd562 : FuncData := fdOf X562.1
noncomputable def Y562 : { b : List Stmt // bodyOf fd562 = b } := by
  refine ⟨?b, ?h⟩
  rotate_left
  · conv => lhs; whnf
noncomputable abbrev body562 : List Stmt := Y562.1
theorem fn562 (P : Params) : FnAt (HK P) 562 fd562 body562 [("out" : Str), ("places" : Str), ("r" : Str), ("order" : Str)] where
  obj := ⟨objAt 562, by kernel_rfl, by kernel_rfl⟩
  code := ⟨561, objAt 561, fieldsAt (objAt 561), tokAt (objAt 561), by kernel_rfl, by kernel_rfl, by kernel_rfl, by kernel_rfl⟩
  body := by kernel_rfl
  bind := ar4 fun v0 v1 v2 v3 => by kernel_rfl
  glob := by kernel_rfl
  bi := by kernel_rfl
  kind := by kernel_rfl
  co := by kernel_rfl
  gen := by kernel_rfl
  nd := nodup_codes [9223860220262875252, 85075134992074858550980218237852057715, 2097266, 40566966260610441281315088105586, 19343827685202323721683058, 4398249934964, 9223847026089787502, 40566095833964978564466678431851, 3451029496412968318011132732041130808400468515045108078268556064587890, 178411661322393607988641174981988051736068212] (by kernel_rfl) (by decide +kernel)
  dbg := dbg_codes [9223860220262875252, 85075134992074858550980218237852057715, 2097266, 40566966260610441281315088105586, 19343827685202323721683058, 4398249934964, 9223847026089787502, 40566095833964978564466678431851, 3451029496412968318011132732041130808400468515045108078268556064587890, 178411661322393607988641174981988051736068212] (by kernel_rfl) (by decide +kernel)
theorem loc562 : [("out" : Str), ("places" : Str), ("r" : Str), ("order" : Str)] ++ [("near" : Str), ("at" : Str)] = locsOf fd562 := by kernel_rfl
theorem noc562 : fd562.scope.names.all (·.2 != .cell) = true := by kernel_rfl
theorem clo562 : fd562.closure = [] := by kernel_rfl
theorem g562_len : (("len" : Str), NameKind.globalImplicit) ∈ fd562.scope.names := (mem_ix 6 (by kernel_rfl))
theorem g562_Block : (("Block" : Str), NameKind.globalImplicit) ∈ fd562.scope.names := (mem_ix 7 (by kernel_rfl))
theorem g562__law_number : (("_law_number" : Str), NameKind.globalImplicit) ∈ fd562.scope.names := (mem_ix 8 (by kernel_rfl))
theorem g562_Corrupt : (("Corrupt" : Str), NameKind.globalImplicit) ∈ fd562.scope.names := (mem_ix 9 (by kernel_rfl))
noncomputable def X569 : { b : Option FuncData // fdAt (objAt 569) = b } := by
  refine ⟨?b, ?h⟩
  rotate_left
  · conv => lhs; whnf
noncomputable def fd569 : FuncData := fdOf X569.1
noncomputable def Y569 : { b : List Stmt // bodyOf fd569 = b } := by
  refine ⟨?b, ?h⟩
  rotate_left
  · conv => lhs; whnf
noncomputable abbrev body569 : List Stmt := Y569.1
theorem fn569 (P : Params) : FnAt (HK P) 569 fd569 body569 [("walker" : Str), ("keys" : Str), ("values" : Str), ("at" : Str)] where
  obj := ⟨objAt 569, by kernel_rfl, by kernel_rfl⟩
  code := ⟨568, objAt 568, fieldsAt (objAt 568), tokAt (objAt 568), by kernel_rfl, by kernel_rfl, by kernel_rfl, by kernel_rfl⟩
  body := by kernel_rfl
  bind := ar4 fun v0 v1 v2 v3 => by kernel_rfl
  glob := by kernel_rfl
  bi := by kernel_rfl
  kind := by kernel_rfl
  co := by kernel_rfl
  gen := by kernel_rfl
  nd := nodup_codes [85075418945596538831571106354396397682, 19343800015086213207687283, 85075378380777331528230302440358936691, 4398249934964, 9223847026089787502] (by kernel_rfl) (by decide +kernel)
  dbg := dbg_codes [85075418945596538831571106354396397682, 19343800015086213207687283, 85075378380777331528230302440358936691, 4398249934964, 9223847026089787502] (by kernel_rfl) (by decide +kernel)
theorem loc569 : [("walker" : Str), ("keys" : Str), ("values" : Str), ("at" : Str)] ++ [] = locsOf fd569 := by kernel_rfl
theorem noc569 : fd569.scope.names.all (·.2 != .cell) = true := by kernel_rfl
theorem clo569 : fd569.closure = [] := by kernel_rfl
theorem g569_len : (("len" : Str), NameKind.globalImplicit) ∈ fd569.scope.names := (mem_ix 4 (by kernel_rfl))
noncomputable def X576 : { b : Option FuncData // fdAt (objAt 576) = b } := by
  refine ⟨?b, ?h⟩
  rotate_left
  · conv => lhs; whnf
noncomputable def fd576 : FuncData := fdOf X576.1
noncomputable def Y576 : { b : List Stmt // bodyOf fd576 = b } := by
  refine ⟨?b, ?h⟩
  rotate_left
  · conv => lhs; whnf
noncomputable abbrev body576 : List Stmt := Y576.1
theorem fn576 (P : Params) : FnAt (HK P) 576 fd576 body576 [("walker" : Str), ("keys" : Str), ("values" : Str), ("at" : Str), ("back" : Str)] where
  obj := ⟨objAt 576, by kernel_rfl, by kernel_rfl⟩
  code := ⟨575, objAt 575, fieldsAt (objAt 575), tokAt (objAt 575), by kernel_rfl, by kernel_rfl, by kernel_rfl, by kernel_rfl⟩
  body := by kernel_rfl
  bind := ar5 fun v0 v1 v2 v3 v4 => by kernel_rfl
  glob := by kernel_rfl
  bi := by kernel_rfl
  kind := by kernel_rfl
  co := by kernel_rfl
  gen := by kernel_rfl
  nd := nodup_codes [85075418945596538831571106354396397682, 19343800015086213207687283, 85075378380777331528230302440358936691, 4398249934964, 19343717004720289282523243, 40566927574956543576235770380388, 178415659639799280591400106529244942891483236, 1645561835917942216258129495658138137948153405541064772872568933, 9223847026089787502, 3451029496412968318011132732041130808603292591738700988262296080875635] (by kernel_rfl) (by decide +kernel)
  dbg := dbg_codes [85075418945596538831571106354396397682, 19343800015086213207687283, 85075378380777331528230302440358936691, 4398249934964, 19343717004720289282523243, 40566927574956543576235770380388, 178415659639799280591400106529244942891483236, 1645561835917942216258129495658138137948153405541064772872568933, 9223847026089787502, 3451029496412968318011132732041130808603292591738700988262296080875635] (by kernel_rfl) (by decide +kernel)
theorem loc576 : [("walker" : Str), ("keys" : Str), ("values" : Str), ("at" : Str), ("back" : Str)] ++ [("moved" : Str), ("refused" : Str)] = locsOf fd576 := by kernel_rfl
theorem noc576 : fd576.scope.names.all (·.2 != .cell) = true := by kernel_rfl
theorem clo576 : fd576.closure = [] := by kernel_rfl
theorem g576_IterMisuse : (("IterMisuse" : Str), NameKind.globalImplicit) ∈ fd576.scope.names := (mem_ix 7 (by kernel_rfl))
theorem g576_len : (("len" : Str), NameKind.globalImplicit) ∈ fd576.scope.names := (mem_ix 8 (by kernel_rfl))
theorem g576__law_stands : (("_law_stands" : Str), NameKind.globalImplicit) ∈ fd576.scope.names := (mem_ix 9 (by kernel_rfl))
noncomputable def X583 : { b : Option FuncData // fdAt (objAt 583) = b } := by
  refine ⟨?b, ?h⟩
  rotate_left
  · conv => lhs; whnf
noncomputable def fd583 : FuncData := fdOf X583.1
noncomputable def Y583 : { b : List Stmt // bodyOf fd583 = b } := by
  refine ⟨?b, ?h⟩
  rotate_left
  · conv => lhs; whnf
noncomputable abbrev body583 : List Stmt := Y583.1
theorem fn583 (P : Params) : FnAt (HK P) 583 fd583 body583 [("walker" : Str), ("spots" : Str), ("z" : Str), ("way" : Str), ("at" : Str), ("internal" : Str)] where
  obj := ⟨objAt 583, by kernel_rfl, by kernel_rfl⟩
  code := ⟨582, objAt 582, fieldsAt (objAt 582), tokAt (objAt 582), by kernel_rfl, by kernel_rfl, by kernel_rfl, by kernel_rfl⟩
  body := by kernel_rfl
  bind := ar6 fun v0 v1 v2 v3 v4 v5 => by kernel_rfl
  glob := by kernel_rfl
  bi := by kernel_rfl
  kind := by kernel_rfl
  co := by kernel_rfl
  gen := by kernel_rfl
  nd := nodup_codes [85075418945596538831571106354396397682, 40567043631844449921887102828659, 2097274, 9223895404593021049, 4398249934964, 374163151792035682579428996596323779852452767989868, 2097258, 9223847026089787502, 9223851424144687214, 9223851424127910008, 374161367732249658175385987738827609501128800075897] (by kernel_rfl) (by decide +kernel)
  dbg := dbg_codes [85075418945596538831571106354396397682, 40567043631844449921887102828659, 2097274, 9223895404593021049, 4398249934964, 374163151792035682579428996596323779852452767989868, 2097258, 9223847026089787502, 9223851424144687214, 9223851424127910008, 374161367732249658175385987738827609501128800075897] (by kernel_rfl) (by decide +kernel)
theorem loc583 : [("walker" : Str), ("spots" : Str), ("z" : Str), ("way" : Str), ("at" : Str), ("internal" : Str)] ++ [("j" : Str)] = locsOf fd583 := by kernel_rfl
theorem noc583 : fd583.scope.names.all (·.2 != .cell) = true := by kernel_rfl
theorem clo583 : fd583.closure = [] := by kernel_rfl
theorem g583_len : (("len" : Str), NameKind.globalImplicit) ∈ fd583.scope.names := (mem_ix 7 (by kernel_rfl))
theorem g583_min : (("min" : Str), NameKind.globalImplicit) ∈ fd583.scope.names := (mem_ix 8 (by kernel_rfl))
theorem g583_max : (("max" : Str), NameKind.globalImplicit) ∈ fd583.scope.names := (mem_ix 9 (by kernel_rfl))
theorem g583__law_key : (("_law_key" : Str), NameKind.globalImplicit) ∈ fd583.scope.names := (mem_ix 10 (by kernel_rfl))
theorem keep127 (P : Params) : keepIn (HK P) (.ref 127) = true := by kernel_rfl
theorem keep134 (P : Params) : keepIn (HK P) (.ref 134) = true := by kernel_rfl
theorem keep141 (P : Params) : keepIn (HK P) (.ref 141) = true := by kernel_rfl
theorem keep148 (P : Params) : keepIn (HK P) (.ref 148) = true := by kernel_rfl
theorem keep155 (P : Params) : keepIn (HK P) (.ref 155) = true := by kernel_rfl
theorem keep162 (P : Params) : keepIn (HK P) (.ref 162) = true := by kernel_rfl
theorem keep176 (P : Params) : keepIn (HK P) (.ref 176) = true := by kernel_rfl
theorem keep197 (P : Params) : keepIn (HK P) (.ref 197) = true := by kernel_rfl
theorem keep204 (P : Params) : keepIn (HK P) (.ref 204) = true := by kernel_rfl
theorem keep211 (P : Params) : keepIn (HK P) (.ref 211) = true := by kernel_rfl
theorem keep232 (P : Params) : keepIn (HK P) (.ref 232) = true := by kernel_rfl
theorem keep239 (P : Params) : keepIn (HK P) (.ref 239) = true := by kernel_rfl
theorem keep246 (P : Params) : keepIn (HK P) (.ref 246) = true := by kernel_rfl
theorem keep253 (P : Params) : keepIn (HK P) (.ref 253) = true := by kernel_rfl
theorem keep260 (P : Params) : keepIn (HK P) (.ref 260) = true := by kernel_rfl
theorem keep281 (P : Params) : keepIn (HK P) (.ref 281) = true := by kernel_rfl
theorem keep288 (P : Params) : keepIn (HK P) (.ref 288) = true := by kernel_rfl
theorem keep295 (P : Params) : keepIn (HK P) (.ref 295) = true := by kernel_rfl
theorem keep302 (P : Params) : keepIn (HK P) (.ref 302) = true := by kernel_rfl
theorem keep309 (P : Params) : keepIn (HK P) (.ref 309) = true := by kernel_rfl
theorem keep316 (P : Params) : keepIn (HK P) (.ref 316) = true := by kernel_rfl
theorem keep323 (P : Params) : keepIn (HK P) (.ref 323) = true := by kernel_rfl
theorem keep330 (P : Params) : keepIn (HK P) (.ref 330) = true := by kernel_rfl
theorem keep337 (P : Params) : keepIn (HK P) (.ref 337) = true := by kernel_rfl
theorem keep344 (P : Params) : keepIn (HK P) (.ref 344) = true := by kernel_rfl
theorem keep351 (P : Params) : keepIn (HK P) (.ref 351) = true := by kernel_rfl
theorem keep358 (P : Params) : keepIn (HK P) (.ref 358) = true := by kernel_rfl
theorem keep365 (P : Params) : keepIn (HK P) (.ref 365) = true := by kernel_rfl
theorem keep372 (P : Params) : keepIn (HK P) (.ref 372) = true := by kernel_rfl
theorem keep386 (P : Params) : keepIn (HK P) (.ref 386) = true := by kernel_rfl
theorem keep393 (P : Params) : keepIn (HK P) (.ref 393) = true := by kernel_rfl
theorem keep407 (P : Params) : keepIn (HK P) (.ref 407) = true := by kernel_rfl
theorem keep482 (P : Params) : keepIn (HK P) (.ref 482) = true := by kernel_rfl
theorem keep489 (P : Params) : keepIn (HK P) (.ref 489) = true := by kernel_rfl
theorem keep529 (P : Params) : keepIn (HK P) (.ref 529) = true := by kernel_rfl
theorem keep536 (P : Params) : keepIn (HK P) (.ref 536) = true := by kernel_rfl
theorem keep543 (P : Params) : keepIn (HK P) (.ref 543) = true := by kernel_rfl
theorem keep550 (P : Params) : keepIn (HK P) (.ref 550) = true := by kernel_rfl
theorem keep562 (P : Params) : keepIn (HK P) (.ref 562) = true := by kernel_rfl
theorem keep569 (P : Params) : keepIn (HK P) (.ref 569) = true := by kernel_rfl
theorem keep576 (P : Params) : keepIn (HK P) (.ref 576) = true := by kernel_rfl
theorem keep583 (P : Params) : keepIn (HK P) (.ref 583) = true := by kernel_rfl
noncomputable def entsAt (o : Obj) : List DictEntry := match o.data with
  | Data.dict es _ => es.toList
  | _ => []
noncomputable def HO (P : Params) (a : Addr) : Obj := match (HK P).lookup a with | some o => o | none => ⟨Value.none, none, Data.plain, #[]⟩
structure GH (g : Gx) : Prop where
  ok : g.Ok
  K : g.K = HK g.w.params
  bi : ∀ x : Str, x ≠ "__name__" → g.mb x = bootBuiltins x
noncomputable def fs3 : List (Str × V) := [(("__name__" : Str), (V.str "law_xm0851_01" : V)),
  (("__doc__" : Str), (V.none : V)),
  (("__package__" : Str), (V.none : V)),
  (("__loader__" : Str), (V.cst (.builtin "__main__.__loader__#opaque") : V)),
  (("__spec__" : Str), (V.none : V)),
  (("__annotations__" : Str), (V.cst (.ref 6) : V)),
  (("__builtins__" : Str), (V.cst (.ref 4) : V)),
  (("__file__" : Str), (V.str "/claim/cut.py" : V)),
  (("__cached__" : Str), (V.none : V)),
  (("_wall" : Str), (V.cst (.ref 21) : V)),
  (("KeepError" : Str), (V.cst (.ref 31) : V)),
  (("StoreError" : Str), (V.cst (.ref 44) : V)),
  (("Corrupt" : Str), (V.cst (.ref 56) : V)),
  (("ShortOctets" : Str), (V.cst (.ref 68) : V)),
  (("BadOption" : Str), (V.cst (.ref 80) : V)),
  (("IterMisuse" : Str), (V.cst (.ref 92) : V)),
  (("BuildOrder" : Str), (V.cst (.ref 104) : V)),
  (("MAX_32" : Str), (V.int (4294967295) : V)),
  (("write_groups" : Str), (V.cst (.ref 113) : V)),
  (("read_groups" : Str), (V.cst (.ref 120) : V)),
  (("put_varint32" : Str), (V.cst (.ref 127) : V)),
  (("read_varint32" : Str), (V.cst (.ref 134) : V)),
  (("put_fixed32" : Str), (V.cst (.ref 141) : V)),
  (("read_fixed32" : Str), (V.cst (.ref 148) : V)),
  (("read_fixed64" : Str), (V.cst (.ref 155) : V)),
  (("shared_prefix" : Str), (V.cst (.ref 162) : V)),
  (("BlockBuilder" : Str), (V.cst (.ref 214) : V)),
  (("Block" : Str), (V.cst (.ref 263) : V)),
  (("BlockIter" : Str), (V.cst (.ref 375) : V)),
  (("TAG_LENGTH" : Str), (V.int (8) : V)),
  (("user_of" : Str), (V.cst (.ref 386) : V)),
  (("tag_of" : Str), (V.cst (.ref 393) : V)),
  (("Order" : Str), (V.cst (.ref 431) : V)),
  (("BytesOrder" : Str), (V.cst (.ref 466) : V)),
  (("InternalOrder" : Str), (V.cst (.ref 520) : V)),
  (("_law_draw" : Str), (V.cst (.ref 529) : V)),
  (("_law_word" : Str), (V.cst (.ref 536) : V)),
  (("_law_key" : Str), (V.cst (.ref 543) : V)),
  (("_law_number" : Str), (V.cst (.ref 550) : V)),
  (("_law_build" : Str), (V.cst (.ref 555) : V)),
  (("_law_refuses" : Str), (V.cst (.ref 562) : V)),
  (("_law_stands" : Str), (V.cst (.ref 569) : V)),
  (("_law_moved" : Str), (V.cst (.ref 576) : V)),
  (("_law_sought" : Str), (V.cst (.ref 583) : V)),
  (("law" : Str), (V.cst (.ref 588) : V))]
theorem look3 (P : Params) : (HK P).lookup 3 = some (dictOf (entsAt (HO P 3)) 45) := by kernel_rfl
theorem es3 (P : Params) : EsAt fs3 (entsAt (HO P 3)) := ⟨⟨_, rfl⟩, ⟨_, rfl⟩, ⟨⟨_, rfl⟩, rfl, ⟨⟨_, rfl⟩, rfl, ⟨⟨_, rfl⟩, rfl, ⟨⟨_, rfl⟩, rfl, ⟨⟨_, rfl⟩, rfl, ⟨⟨_, rfl⟩, rfl, ⟨⟨_, rfl⟩, ⟨_, rfl⟩, ⟨⟨_, rfl⟩, rfl, ⟨⟨_, rfl⟩, rfl, ⟨⟨_, rfl⟩, rfl, ⟨⟨_, rfl⟩, rfl, ⟨⟨_, rfl⟩, rfl, ⟨⟨_, rfl⟩, rfl, ⟨⟨_, rfl⟩, rfl, ⟨⟨_, rfl⟩, rfl, ⟨⟨_, rfl⟩, rfl, ⟨⟨_, rfl⟩, ⟨_, rfl⟩, ⟨⟨_, rfl⟩, rfl, ⟨⟨_, rfl⟩, rfl, ⟨⟨_, rfl⟩, rfl, ⟨⟨_, rfl⟩, rfl, ⟨⟨_, rfl⟩, rfl, ⟨⟨_, rfl⟩, rfl, ⟨⟨_, rfl⟩, rfl, ⟨⟨_, rfl⟩, rfl, ⟨⟨_, rfl⟩, rfl, ⟨⟨_, rfl⟩, rfl, ⟨⟨_, rfl⟩, rfl, ⟨⟨_, rfl⟩, ⟨_, rfl⟩, ⟨⟨_, rfl⟩, rfl, ⟨⟨_, rfl⟩, rfl, ⟨⟨_, rfl⟩, rfl, ⟨⟨_, rfl⟩, rfl, ⟨⟨_, rfl⟩, rfl, ⟨⟨_, rfl⟩, rfl, ⟨⟨_, rfl⟩, rfl, ⟨⟨_, rfl⟩, rfl, ⟨⟨_, rfl⟩, rfl, ⟨⟨_, rfl⟩, rfl, ⟨⟨_, rfl⟩, rfl, ⟨⟨_, rfl⟩, rfl, ⟨⟨_, rfl⟩, rfl, ⟨⟨_, rfl⟩, rfl, ⟨⟨_, rfl⟩, rfl, trivial⟩⟩⟩⟩⟩⟩⟩⟩⟩⟩⟩⟩⟩⟩⟩⟩⟩⟩⟩⟩⟩⟩⟩⟩⟩⟩⟩⟩⟩⟩⟩⟩⟩⟩⟩⟩⟩⟩⟩⟩⟩⟩⟩⟩⟩
noncomputable def codes3 : List Nat := [374161367731143741010235161885755695882262265462879, 178414043298313017179769153886801551501033567, 3451029496402768033303291738219750197345458998448288295201843273793631, 1645579097939857498076780585897539950879699447362785272051794015, 374161367731143741213059548064395320647645776576607, 66752618599247636848067436934149788210820475706205944632613463355544821013030945465818366869599, 7237333410440057775593144321353787799228334574139383928864719623517412261983, 374161367731143740685716762969824656399603752501343, 1645579097939857496471125740615131991120291469057947715967647839, 40566656775646736783236512350316, 784665777772790859528050240162889390591774966583952146546, 1645569682295111451393143906278340553818664994156177105822417010, 178411661322393607988641174981988051736068212, 3451009750355141917908954508194956824268710851369304399108902901252211, 784662410472304825196301788564068953397222868734143627374, 1645561835917942216258129495658138137948153405541064772872568933, 1645556343454297898045241186419815524017517300752288239318990962, 85073715222570861887145311134080303154, 7237416231427483854440160097543292424695251132429058134814652216283190263923, 3451060760994064956907466941073972905376085173003743832111279461367923, 7237392075320206609769874723151156023511103593384039669888103877567188041778, 15177925739497862594577633085556605693945605697750796865968496364940243103559712818, 3451057469997504525074899064611578716662529302049941013980536387928114, 7237398977040225312508408110407164426370196815921713988574373163292986179634, 7237398977040225312508408110407164426370196815921713988574373163292992471092, 15177932976513792546360043889354602660728231566087692282966580266095939844088791160, 7237233335139420881863685781345967610515241997622041706458902361457234542706, 40566095833964978564466678431851, 784662410474267291709549803729392302734138933333842722930, 1645570466913747002215007037379894745371709002006339020340068424, 178415914852142378744807110048032901484773478, 85075297251138916875431649710077640806, 40566347290590798591177638543474, 1645556343455794477684333012985217294387160471764627138713485426, 15177629022300249861652005095698717799378218075102398100578084561258658141392863346, 784673260662422835141827074958457798855947718253338427511, 784673260662422835141827074958457799031191773759475286116, 374161367732249658175385987738827609501128800075897, 3451029496412968318011132732041130808400468515045108078268556064587890, 1645579097944721373563352933903279689747662870672908351254298724, 7237333410461449334053683031265521557438941065147574243650427220887647289459, 3451029496412968318011132732041130808603292591738700988262296080875635, 1645579097944721373563352933903279689960433759584908039463895140, 3451029496412968318011132732041130808603292495024819886501912882708596, 9223847026081398903]
theorem fs3_codes : (fs3.map Prod.fst).map code = codes3 := by kernel_rfl
theorem fs3_nd : (fs3.map Prod.fst).Nodup := nodup_codes codes3 fs3_codes (by decide +kernel)
theorem has_global {g : Gx} (G : GH g) {x : Str} {v : V} (h : (x, v) ∈ fs3) : g.Has x v := by
  obtain ⟨u, hu, hv⟩ := esAt_get (es3 g.w.params) fs3_nd h
  refine .inl ⟨u, ?_, hv⟩
  refine mg_of G.ok.K G.ok.mg ?_
  rw [G.K]
  unfold nsIn
  rw [show List.lookup mainGlobals (HK g.w.params) = _ from look3 _]
  exact hu
theorem has_built {g : Gx} (G : GH g) {x : Str} {u : Value} {v : V} (n : Nat) (hn : code x = n) (hc : n ∉ codes3) (hb : bootBuiltins x = some u) (hx : x ≠ "__name__") (hv : v.At u) : g.Has x v := by
  refine .inr ⟨?_, u, (G.bi x hx).trans hb, hv⟩
  refine mg_none_of G.ok.K G.ok.mg ?_
  rw [G.K]
  unfold nsIn
  rw [show List.lookup mainGlobals (HK g.w.params) = _ from look3 _]
  refine esAt_none (es3 _) fun h => hc ?_
  rw [← hn, ← fs3_codes]
  exact List.mem_map_of_mem h
theorem has__wall {g : Gx} (G : GH g) : g.Has "_wall" (V.cst (.ref 21)) := has_global G (mem_ix 9 (by kernel_rfl))
theorem has_KeepError {g : Gx} (G : GH g) : g.Has "KeepError" (V.cst (.ref 31)) := has_global G (mem_ix 10 (by kernel_rfl))
theorem has_StoreError {g : Gx} (G : GH g) : g.Has "StoreError" (V.cst (.ref 44)) := has_global G (mem_ix 11 (by kernel_rfl))
theorem has_Corrupt {g : Gx} (G : GH g) : g.Has "Corrupt" (V.cst (.ref 56)) := has_global G (mem_ix 12 (by kernel_rfl))
theorem has_ShortOctets {g : Gx} (G : GH g) : g.Has "ShortOctets" (V.cst (.ref 68)) := has_global G (mem_ix 13 (by kernel_rfl))
theorem has_BadOption {g : Gx} (G : GH g) : g.Has "BadOption" (V.cst (.ref 80)) := has_global G (mem_ix 14 (by kernel_rfl))
theorem has_IterMisuse {g : Gx} (G : GH g) : g.Has "IterMisuse" (V.cst (.ref 92)) := has_global G (mem_ix 15 (by kernel_rfl))
theorem has_BuildOrder {g : Gx} (G : GH g) : g.Has "BuildOrder" (V.cst (.ref 104)) := has_global G (mem_ix 16 (by kernel_rfl))
theorem has_MAX_32 {g : Gx} (G : GH g) : g.Has "MAX_32" (V.int (4294967295)) := has_global G (mem_ix 17 (by kernel_rfl))
theorem has_write_groups {g : Gx} (G : GH g) : g.Has "write_groups" (V.cst (.ref 113)) := has_global G (mem_ix 18 (by kernel_rfl))
theorem has_read_groups {g : Gx} (G : GH g) : g.Has "read_groups" (V.cst (.ref 120)) := has_global G (mem_ix 19 (by kernel_rfl))
theorem has_put_varint32 {g : Gx} (G : GH g) : g.Has "put_varint32" (V.cst (.ref 127)) := has_global G (mem_ix 20 (by kernel_rfl))
theorem has_read_varint32 {g : Gx} (G : GH g) : g.Has "read_varint32" (V.cst (.ref 134)) := has_global G (mem_ix 21 (by kernel_rfl))
theorem has_put_fixed32 {g : Gx} (G : GH g) : g.Has "put_fixed32" (V.cst (.ref 141)) := has_global G (mem_ix 22 (by kernel_rfl))
theorem has_read_fixed32 {g : Gx} (G : GH g) : g.Has "read_fixed32" (V.cst (.ref 148)) := has_global G (mem_ix 23 (by kernel_rfl))
theorem has_read_fixed64 {g : Gx} (G : GH g) : g.Has "read_fixed64" (V.cst (.ref 155)) := has_global G (mem_ix 24 (by kernel_rfl))
theorem has_shared_prefix {g : Gx} (G : GH g) : g.Has "shared_prefix" (V.cst (.ref 162)) := has_global G (mem_ix 25 (by kernel_rfl))
theorem has_BlockBuilder {g : Gx} (G : GH g) : g.Has "BlockBuilder" (V.cst (.ref 214)) := has_global G (mem_ix 26 (by kernel_rfl))
theorem has_Block {g : Gx} (G : GH g) : g.Has "Block" (V.cst (.ref 263)) := has_global G (mem_ix 27 (by kernel_rfl))
theorem has_BlockIter {g : Gx} (G : GH g) : g.Has "BlockIter" (V.cst (.ref 375)) := has_global G (mem_ix 28 (by kernel_rfl))
theorem has_TAG_LENGTH {g : Gx} (G : GH g) : g.Has "TAG_LENGTH" (V.int (8)) := has_global G (mem_ix 29 (by kernel_rfl))
theorem has_user_of {g : Gx} (G : GH g) : g.Has "user_of" (V.cst (.ref 386)) := has_global G (mem_ix 30 (by kernel_rfl))
theorem has_tag_of {g : Gx} (G : GH g) : g.Has "tag_of" (V.cst (.ref 393)) := has_global G (mem_ix 31 (by kernel_rfl))
theorem has_Order {g : Gx} (G : GH g) : g.Has "Order" (V.cst (.ref 431)) := has_global G (mem_ix 32 (by kernel_rfl))
theorem has_BytesOrder {g : Gx} (G : GH g) : g.Has "BytesOrder" (V.cst (.ref 466)) := has_global G (mem_ix 33 (by kernel_rfl))
theorem has_InternalOrder {g : Gx} (G : GH g) : g.Has "InternalOrder" (V.cst (.ref 520)) := has_global G (mem_ix 34 (by kernel_rfl))
theorem has__law_draw {g : Gx} (G : GH g) : g.Has "_law_draw" (V.cst (.ref 529)) := has_global G (mem_ix 35 (by kernel_rfl))
theorem has__law_word {g : Gx} (G : GH g) : g.Has "_law_word" (V.cst (.ref 536)) := has_global G (mem_ix 36 (by kernel_rfl))
theorem has__law_key {g : Gx} (G : GH g) : g.Has "_law_key" (V.cst (.ref 543)) := has_global G (mem_ix 37 (by kernel_rfl))
theorem has__law_number {g : Gx} (G : GH g) : g.Has "_law_number" (V.cst (.ref 550)) := has_global G (mem_ix 38 (by kernel_rfl))
theorem has__law_build {g : Gx} (G : GH g) : g.Has "_law_build" (V.cst (.ref 555)) := has_global G (mem_ix 39 (by kernel_rfl))
theorem has__law_refuses {g : Gx} (G : GH g) : g.Has "_law_refuses" (V.cst (.ref 562)) := has_global G (mem_ix 40 (by kernel_rfl))
theorem has__law_stands {g : Gx} (G : GH g) : g.Has "_law_stands" (V.cst (.ref 569)) := has_global G (mem_ix 41 (by kernel_rfl))
theorem has__law_moved {g : Gx} (G : GH g) : g.Has "_law_moved" (V.cst (.ref 576)) := has_global G (mem_ix 42 (by kernel_rfl))
theorem has__law_sought {g : Gx} (G : GH g) : g.Has "_law_sought" (V.cst (.ref 583)) := has_global G (mem_ix 43 (by kernel_rfl))
theorem has_law {g : Gx} (G : GH g) : g.Has "law" (V.cst (.ref 588)) := has_global G (mem_ix 44 (by kernel_rfl))
theorem has_len {g : Gx} (G : GH g) : g.Has "len" (V.cst (.builtin "len")) := has_built G (u := .builtin "len") 9223847026089787502 (by kernel_rfl) (by decide +kernel) (by kernel_rfl) (by decide +kernel) rfl
theorem has_max {g : Gx} (G : GH g) : g.Has "max" (V.cst (.builtin "max")) := has_built G (u := .builtin "max") 9223851424127910008 (by kernel_rfl) (by decide +kernel) (by kernel_rfl) (by decide +kernel) rfl
theorem has_min {g : Gx} (G : GH g) : g.Has "min" (V.cst (.builtin "min")) := has_built G (u := .builtin "min") 9223851424144687214 (by kernel_rfl) (by decide +kernel) (by kernel_rfl) (by decide +kernel) rfl
theorem has_range {g : Gx} (G : GH g) : g.Has "range" (V.cst (.type "range")) := has_built G (u := .type "range") 40567024288892985502869412118629 (by kernel_rfl) (by decide +kernel) (by kernel_rfl) (by decide +kernel) rfl
theorem has_bytes {g : Gx} (G : GH g) : g.Has "bytes" (V.cst (.type "bytes")) := has_built G (u := .type "bytes") 40566714804104525113073476829299 (by kernel_rfl) (by decide +kernel) (by kernel_rfl) (by decide +kernel) rfl
theorem has_bytearray {g : Gx} (G : GH g) : g.Has "bytearray" (V.cst (.type "bytearray")) := has_built G (u := .type "bytearray") 784674383097999584392255952902879695407911243455563563129 (by kernel_rfl) (by decide +kernel) (by kernel_rfl) (by decide +kernel) rfl
theorem cls214 (P : Params) : ClsOk (HK P) 214 := ⟨by kernel_rfl, by kernel_rfl, by kernel_rfl, by kernel_rfl, by kernel_rfl⟩
theorem fld214_interval (P : Params) : FldOk (HK P) 214 "interval" := by unfold FldOk; kernel_rfl
theorem fld214_order (P : Params) : FldOk (HK P) 214 "order" := by unfold FldOk; kernel_rfl
theorem fld214_buffer (P : Params) : FldOk (HK P) 214 "buffer" := by unfold FldOk; kernel_rfl
theorem fld214_restarts (P : Params) : FldOk (HK P) 214 "restarts" := by unfold FldOk; kernel_rfl
theorem fld214_since (P : Params) : FldOk (HK P) 214 "since" := by unfold FldOk; kernel_rfl
theorem fld214_entries (P : Params) : FldOk (HK P) 214 "entries" := by unfold FldOk; kernel_rfl
theorem fld214_finished (P : Params) : FldOk (HK P) 214 "finished" := by unfold FldOk; kernel_rfl
theorem fld214_last_key (P : Params) : FldOk (HK P) 214 "last_key" := by unfold FldOk; kernel_rfl
theorem meth214_estimate (P : Params) : MethOk (HK P) 214 "estimate" 197 := ⟨by kernel_rfl, by kernel_rfl⟩
theorem meth214_add (P : Params) : MethOk (HK P) 214 "add" 204 := ⟨by kernel_rfl, by kernel_rfl⟩
theorem meth214_finish (P : Params) : MethOk (HK P) 214 "finish" 211 := ⟨by kernel_rfl, by kernel_rfl⟩
theorem cls263 (P : Params) : ClsOk (HK P) 263 := ⟨by kernel_rfl, by kernel_rfl, by kernel_rfl, by kernel_rfl, by kernel_rfl⟩
theorem fld263_data (P : Params) : FldOk (HK P) 263 "data" := by unfold FldOk; kernel_rfl
theorem fld263_order (P : Params) : FldOk (HK P) 263 "order" := by unfold FldOk; kernel_rfl
theorem fld263_limit (P : Params) : FldOk (HK P) 263 "limit" := by unfold FldOk; kernel_rfl
theorem fld263_restarts (P : Params) : FldOk (HK P) 263 "restarts" := by unfold FldOk; kernel_rfl
theorem meth263_count_restarts (P : Params) : MethOk (HK P) 263 "count_restarts" 239 := ⟨by kernel_rfl, by kernel_rfl⟩
theorem meth263_walk (P : Params) : MethOk (HK P) 263 "walk" 246 := ⟨by kernel_rfl, by kernel_rfl⟩
theorem meth263_entry_at (P : Params) : MethOk (HK P) 263 "entry_at" 253 := ⟨by kernel_rfl, by kernel_rfl⟩
theorem meth263_restart_key (P : Params) : MethOk (HK P) 263 "restart_key" 260 := ⟨by kernel_rfl, by kernel_rfl⟩
theorem cls375 (P : Params) : ClsOk (HK P) 375 := ⟨by kernel_rfl, by kernel_rfl, by kernel_rfl, by kernel_rfl, by kernel_rfl⟩
theorem fld375_block (P : Params) : FldOk (HK P) 375 "block" := by unfold FldOk; kernel_rfl
theorem fld375_order (P : Params) : FldOk (HK P) 375 "order" := by unfold FldOk; kernel_rfl
theorem fld375_current (P : Params) : FldOk (HK P) 375 "current" := by unfold FldOk; kernel_rfl
theorem fld375_ahead (P : Params) : FldOk (HK P) 375 "ahead" := by unfold FldOk; kernel_rfl
theorem fld375_turn (P : Params) : FldOk (HK P) 375 "turn" := by unfold FldOk; kernel_rfl
theorem fld375_held_key (P : Params) : FldOk (HK P) 375 "held_key" := by unfold FldOk; kernel_rfl
theorem fld375_value_from (P : Params) : FldOk (HK P) 375 "value_from" := by unfold FldOk; kernel_rfl
theorem meth375_lose (P : Params) : MethOk (HK P) 375 "lose" 288 := ⟨by kernel_rfl, by kernel_rfl⟩
theorem meth375_need (P : Params) : MethOk (HK P) 375 "need" 295 := ⟨by kernel_rfl, by kernel_rfl⟩
theorem meth375_valid (P : Params) : MethOk (HK P) 375 "valid" 302 := ⟨by kernel_rfl, by kernel_rfl⟩
theorem meth375_key (P : Params) : MethOk (HK P) 375 "key" 309 := ⟨by kernel_rfl, by kernel_rfl⟩
theorem meth375_value (P : Params) : MethOk (HK P) 375 "value" 316 := ⟨by kernel_rfl, by kernel_rfl⟩
theorem meth375_go_restart (P : Params) : MethOk (HK P) 375 "go_restart" 323 := ⟨by kernel_rfl, by kernel_rfl⟩
theorem meth375_parse (P : Params) : MethOk (HK P) 375 "parse" 330 := ⟨by kernel_rfl, by kernel_rfl⟩
theorem meth375_seek_first (P : Params) : MethOk (HK P) 375 "seek_first" 337 := ⟨by kernel_rfl, by kernel_rfl⟩
theorem meth375_seek_last (P : Params) : MethOk (HK P) 375 "seek_last" 344 := ⟨by kernel_rfl, by kernel_rfl⟩
theorem meth375_seek (P : Params) : MethOk (HK P) 375 "seek" 351 := ⟨by kernel_rfl, by kernel_rfl⟩
theorem meth375_narrow (P : Params) : MethOk (HK P) 375 "narrow" 358 := ⟨by kernel_rfl, by kernel_rfl⟩
theorem meth375_step (P : Params) : MethOk (HK P) 375 "step" 365 := ⟨by kernel_rfl, by kernel_rfl⟩
theorem meth375_back (P : Params) : MethOk (HK P) 375 "back" 372 := ⟨by kernel_rfl, by kernel_rfl⟩
theorem cls466 (P : Params) : ClsOk (HK P) 466 := ⟨by kernel_rfl, by kernel_rfl, by kernel_rfl, by kernel_rfl, by kernel_rfl⟩
theorem meth466_compare (P : Params) : MethOk (HK P) 466 "compare" 407 := ⟨by kernel_rfl, by kernel_rfl⟩
theorem cls520 (P : Params) : ClsOk (HK P) 520 := ⟨by kernel_rfl, by kernel_rfl, by kernel_rfl, by kernel_rfl, by kernel_rfl⟩
theorem fld520_user_order (P : Params) : FldOk (HK P) 520 "user_order" := by unfold FldOk; kernel_rfl
theorem meth520_compare (P : Params) : MethOk (HK P) 520 "compare" 489 := ⟨by kernel_rfl, by kernel_rfl⟩
theorem nd214 : ([("interval" : Str), ("order" : Str), ("buffer" : Str), ("restarts" : Str), ("since" : Str), ("entries" : Str), ("finished" : Str), ("last_key" : Str)] : List Str).Nodup := nodup_codes [374163151792035682579428996596323779887637140078700, 40566966260610441281315088105586, 85074567084780041668349727694387150962, 374164757444924341418158546559983387023832841715827, 40567043631779886313231037235301, 178414553722471871185058936552918684272689267, 374162616573725564642433588787197651627035664056420, 374163687008814529581326814382024478520188719857785] (by kernel_rfl) (by decide +kernel)
theorem nm214_estimate : ("estimate" : Str) ∉ ([("interval" : Str), ("order" : Str), ("buffer" : Str), ("restarts" : Str), ("since" : Str), ("entries" : Str), ("finished" : Str), ("last_key" : Str)] : List Str) := notin_codes [374163151792035682579428996596323779887637140078700, 40566966260610441281315088105586, 85074567084780041668349727694387150962, 374164757444924341418158546559983387023832841715827, 40567043631779886313231037235301, 178414553722471871185058936552918684272689267, 374162616573725564642433588787197651627035664056420, 374163687008814529581326814382024478520188719857785] 374162438168614682558139717903874611783082629398629 (by kernel_rfl) (by kernel_rfl) (by decide +kernel)
theorem nm214_add : ("add" : Str) ∉ ([("interval" : Str), ("order" : Str), ("buffer" : Str), ("restarts" : Str), ("since" : Str), ("entries" : Str), ("finished" : Str), ("last_key" : Str)] : List Str) := notin_codes [374163151792035682579428996596323779887637140078700, 40566966260610441281315088105586, 85074567084780041668349727694387150962, 374164757444924341418158546559983387023832841715827, 40567043631779886313231037235301, 178414553722471871185058936552918684272689267, 374162616573725564642433588787197651627035664056420, 374163687008814529581326814382024478520188719857785] 9223798647576068196 (by kernel_rfl) (by kernel_rfl) (by decide +kernel)
theorem nm214_finish : ("finish" : Str) ∉ ([("interval" : Str), ("order" : Str), ("buffer" : Str), ("restarts" : Str), ("since" : Str), ("entries" : Str), ("finished" : Str), ("last_key" : Str)] : List Str) := notin_codes [374163151792035682579428996596323779887637140078700, 40566966260610441281315088105586, 85074567084780041668349727694387150962, 374164757444924341418158546559983387023832841715827, 40567043631779886313231037235301, 178414553722471871185058936552918684272689267, 374162616573725564642433588787197651627035664056420, 374163687008814529581326814382024478520188719857785] 85074729343824757198134099959860953192 (by kernel_rfl) (by kernel_rfl) (by decide +kernel)
theorem nd263 : ([("data" : Str), ("order" : Str), ("limit" : Str), ("restarts" : Str)] : List Str).Nodup := nodup_codes [19343735451464363027726433, 40566966260610441281315088105586, 40566908232088089470365436215412, 374164757444924341418158546559983387023832841715827] (by kernel_rfl) (by decide +kernel)
theorem nm263_count_restarts : ("count_restarts" : Str) ∉ ([("data" : Str), ("order" : Str), ("limit" : Str), ("restarts" : Str)] : List Str) := notin_codes [19343735451464363027726433, 40566966260610441281315088105586, 40566908232088089470365436215412, 374164757444924341418158546559983387023832841715827] 31830189664000983958108976551306421198636024267369355212622108629837537528401679270019187 (by kernel_rfl) (by kernel_rfl) (by decide +kernel)
theorem nm263_walk : ("walk" : Str) ∉ ([("data" : Str), ("order" : Str), ("limit" : Str), ("restarts" : Str)] : List Str) := notin_codes [19343735451464363027726433, 40566966260610441281315088105586, 40566908232088089470365436215412, 374164757444924341418158546559983387023832841715827] 19343910695533063251689579 (by kernel_rfl) (by kernel_rfl) (by decide +kernel)
theorem nm263_entry_at : ("entry_at" : Str) ∉ ([("data" : Str), ("order" : Str), ("limit" : Str), ("restarts" : Str)] : List Str) := notin_codes [19343735451464363027726433, 40566966260610441281315088105586, 40566908232088089470365436215412, 374164757444924341418158546559983387023832841715827] 374162438168189329599488718909974098486040201265268 (by kernel_rfl) (by kernel_rfl) (by decide +kernel)
theorem nm263_restart_key : ("restart_key" : Str) ∉ ([("data" : Str), ("order" : Str), ("limit" : Str), ("restarts" : Str)] : List Str) := notin_codes [19343735451464363027726433, 40566966260610441281315088105586, 40566908232088089470365436215412, 374164757444924341418158546559983387023832841715827] 3451060760994064963642069340390329106008100517929861975978208223297657 (by kernel_rfl) (by kernel_rfl) (by decide +kernel)
theorem nd375 : ([("block" : Str), ("order" : Str), ("current" : Str), ("ahead" : Str), ("turn" : Str), ("held_key" : Str), ("value_from" : Str)] : List Str).Nodup := nodup_codes [40566714803984621254604127993963, 40566966260610441281315088105586, 178414383581572364411592702023864504148820084, 40566695461134613888409444286564, 19343883025504913630167150, 374162973385308458684353179766369921099722053910649, 1645597144608095023622290546509964600142806830620256372187463789] (by kernel_rfl) (by decide +kernel)
theorem nm375_lose : ("lose" : Str) ∉ ([("block" : Str), ("order" : Str), ("current" : Str), ("ahead" : Str), ("turn" : Str), ("held_key" : Str), ("value_from" : Str)] : List Str) := notin_codes [40566714803984621254604127993963, 40566966260610441281315088105586, 178414383581572364411592702023864504148820084, 40566695461134613888409444286564, 19343883025504913630167150, 374162973385308458684353179766369921099722053910649, 1645597144608095023622290546509964600142806830620256372187463789] 19343809238502230514991205 (by kernel_rfl) (by kernel_rfl) (by decide +kernel)
theorem nm375_need : ("need" : Str) ∉ ([("block" : Str), ("order" : Str), ("current" : Str), ("ahead" : Str), ("turn" : Str), ("held_key" : Str), ("value_from" : Str)] : List Str) := notin_codes [40566714803984621254604127993963, 40566966260610441281315088105586, 178414383581572364411592702023864504148820084, 40566695461134613888409444286564, 19343883025504913630167150, 374162973385308458684353179766369921099722053910649, 1645597144608095023622290546509964600142806830620256372187463789] 19343827685202323730071652 (by kernel_rfl) (by kernel_rfl) (by decide +kernel)
theorem nm375_valid : ("valid" : Str) ∉ ([("block" : Str), ("order" : Str), ("current" : Str), ("ahead" : Str), ("turn" : Str), ("held_key" : Str), ("value_from" : Str)] : List Str) := notin_codes [40566714803984621254604127993963, 40566966260610441281315088105586, 178414383581572364411592702023864504148820084, 40566695461134613888409444286564, 19343883025504913630167150, 374162973385308458684353179766369921099722053910649, 1645597144608095023622290546509964600142806830620256372187463789] 40567101660145440830340504485988 (by kernel_rfl) (by kernel_rfl) (by decide +kernel)
theorem nm375_key : ("key" : Str) ∉ ([("block" : Str), ("order" : Str), ("current" : Str), ("ahead" : Str), ("turn" : Str), ("held_key" : Str), ("value_from" : Str)] : List Str) := notin_codes [40566714803984621254604127993963, 40566966260610441281315088105586, 178414383581572364411592702023864504148820084, 40566695461134613888409444286564, 19343883025504913630167150, 374162973385308458684353179766369921099722053910649, 1645597144608095023622290546509964600142806830620256372187463789] 9223842628043276409 (by kernel_rfl) (by kernel_rfl) (by decide +kernel)
theorem nm375_value : ("value" : Str) ∉ ([("block" : Str), ("order" : Str), ("current" : Str), ("ahead" : Str), ("turn" : Str), ("held_key" : Str), ("value_from" : Str)] : List Str) := notin_codes [40566714803984621254604127993963, 40566966260610441281315088105586, 178414383581572364411592702023864504148820084, 40566695461134613888409444286564, 19343883025504913630167150, 374162973385308458684353179766369921099722053910649, 1645597144608095023622290546509964600142806830620256372187463789] 40567101660145440830340529651813 (by kernel_rfl) (by kernel_rfl) (by decide +kernel)
theorem nm375_go_restart : ("go_restart" : Str) ∉ ([("block" : Str), ("order" : Str), ("current" : Str), ("ahead" : Str), ("turn" : Str), ("held_key" : Str), ("value_from" : Str)] : List Str) := notin_codes [40566714803984621254604127993963, 40566966260610441281315088105586, 178414383581572364411592702023864504148820084, 40566695461134613888409444286564, 19343883025504913630167150, 374162973385308458684353179766369921099722053910649, 1645597144608095023622290546509964600142806830620256372187463789] 1645585375047579193144774554604678095172025890563674778997096564 (by kernel_rfl) (by kernel_rfl) (by decide +kernel)
theorem nm375_parse : ("parse" : Str) ∉ ([("block" : Str), ("order" : Str), ("current" : Str), ("ahead" : Str), ("turn" : Str), ("held_key" : Str), ("value_from" : Str)] : List Str) := notin_codes [40566714803984621254604127993963, 40566966260610441281315088105586, 178414383581572364411592702023864504148820084, 40566695461134613888409444286564, 19343883025504913630167150, 374162973385308458684353179766369921099722053910649, 1645597144608095023622290546509964600142806830620256372187463789] 40566985603266757852328032731237 (by kernel_rfl) (by kernel_rfl) (by decide +kernel)
theorem nm375_seek_first : ("seek_first" : Str) ∉ ([("block" : Str), ("order" : Str), ("current" : Str), ("ahead" : Str), ("turn" : Str), ("held_key" : Str), ("value_from" : Str)] : List Str) := notin_codes [40566714803984621254604127993963, 40566966260610441281315088105586, 178414383581572364411592702023864504148820084, 40566695461134613888409444286564, 19343883025504913630167150, 374162973385308458684353179766369921099722053910649, 1645597144608095023622290546509964600142806830620256372187463789] 1645594790696440830044788370853295883484599283766132760467472500 (by kernel_rfl) (by kernel_rfl) (by decide +kernel)
theorem nm375_seek_last : ("seek_last" : Str) ∉ ([("block" : Str), ("order" : Str), ("current" : Str), ("ahead" : Str), ("turn" : Str), ("held_key" : Str), ("value_from" : Str)] : List Str) := notin_codes [40566714803984621254604127993963, 40566966260610441281315088105586, 178414383581572364411592702023864504148820084, 40566695461134613888409444286564, 19343883025504913630167150, 374162973385308458684353179766369921099722053910649, 1645597144608095023622290546509964600142806830620256372187463789] 784680743549557127973932443071983281898811382609446174836 (by kernel_rfl) (by kernel_rfl) (by decide +kernel)
theorem nm375_seek : ("seek" : Str) ∉ ([("block" : Str), ("order" : Str), ("current" : Str), ("ahead" : Str), ("turn" : Str), ("held_key" : Str), ("value_from" : Str)] : List Str) := notin_codes [40566714803984621254604127993963, 40566966260610441281315088105586, 178414383581572364411592702023864504148820084, 40566695461134613888409444286564, 19343883025504913630167150, 374162973385308458684353179766369921099722053910649, 1645597144608095023622290546509964600142806830620256372187463789] 19343873802062508003950699 (by kernel_rfl) (by kernel_rfl) (by decide +kernel)
theorem nm375_narrow : ("narrow" : Str) ∉ ([("block" : Str), ("order" : Str), ("current" : Str), ("ahead" : Str), ("turn" : Str), ("held_key" : Str), ("value_from" : Str)] : List Str) := notin_codes [40566714803984621254604127993963, 40566966260610441281315088105586, 178414383581572364411592702023864504148820084, 40566695461134613888409444286564, 19343883025504913630167150, 374162973385308458684353179766369921099722053910649, 1645597144608095023622290546509964600142806830620256372187463789] 85075053862223673156843738311348453495 (by kernel_rfl) (by kernel_rfl) (by decide +kernel)
theorem nm375_step : ("step" : Str) ∉ ([("block" : Str), ("order" : Str), ("current" : Str), ("ahead" : Str), ("turn" : Str), ("held_key" : Str), ("value_from" : Str)] : List Str) := notin_codes [40566714803984621254604127993963, 40566966260610441281315088105586, 178414383581572364411592702023864504148820084, 40566695461134613888409444286564, 19343883025504913630167150, 374162973385308458684353179766369921099722053910649, 1645597144608095023622290546509964600142806830620256372187463789] 19343873802128478701617264 (by kernel_rfl) (by kernel_rfl) (by decide +kernel)
theorem nm375_back : ("back" : Str) ∉ ([("block" : Str), ("order" : Str), ("current" : Str), ("ahead" : Str), ("turn" : Str), ("held_key" : Str), ("value_from" : Str)] : List Str) := notin_codes [40566714803984621254604127993963, 40566966260610441281315088105586, 178414383581572364411592702023864504148820084, 40566695461134613888409444286564, 19343883025504913630167150, 374162973385308458684353179766369921099722053910649, 1645597144608095023622290546509964600142806830620256372187463789] 19343717004720289282523243 (by kernel_rfl) (by kernel_rfl) (by decide +kernel)
theorem nd466 : ([] : List Str).Nodup := nodup_codes [] (by kernel_rfl) (by decide +kernel)
theorem nm466_compare : ("compare" : Str) ∉ ([] : List Str) := notin_codes [] 178414383581328975399634797962845137269686373 (by kernel_rfl) (by kernel_rfl) (by decide +kernel)
theorem nd520 : ([("user_order" : Str)] : List Str).Nodup := nodup_codes [1645596359977112698583173881353635803658054929637797104474652786] (by kernel_rfl) (by decide +kernel)
theorem nm520_compare : ("compare" : Str) ∉ ([("user_order" : Str)] : List Str) := notin_codes [1645596359977112698583173881353635803658054929637797104474652786] 178414383581328975399634797962845137269686373 (by kernel_rfl) (by kernel_rfl) (by decide +kernel)
theorem kcls214 {g : Gx} (G : GH g) : ClsOk g.K 214 := by rw [G.K]; exact cls214 _
theorem kfld214_interval {g : Gx} (G : GH g) : FldOk g.K 214 "interval" := by rw [G.K]; exact fld214_interval _
theorem kfld214_order {g : Gx} (G : GH g) : FldOk g.K 214 "order" := by rw [G.K]; exact fld214_order _
theorem kfld214_buffer {g : Gx} (G : GH g) : FldOk g.K 214 "buffer" := by rw [G.K]; exact fld214_buffer _
theorem kfld214_restarts {g : Gx} (G : GH g) : FldOk g.K 214 "restarts" := by rw [G.K]; exact fld214_restarts _
theorem kfld214_since {g : Gx} (G : GH g) : FldOk g.K 214 "since" := by rw [G.K]; exact fld214_since _
theorem kfld214_entries {g : Gx} (G : GH g) : FldOk g.K 214 "entries" := by rw [G.K]; exact fld214_entries _
theorem kfld214_finished {g : Gx} (G : GH g) : FldOk g.K 214 "finished" := by rw [G.K]; exact fld214_finished _
theorem kfld214_last_key {g : Gx} (G : GH g) : FldOk g.K 214 "last_key" := by rw [G.K]; exact fld214_last_key _
theorem kmeth214_estimate {g : Gx} (G : GH g) : MethOk g.K 214 "estimate" 197 := by rw [G.K]; exact meth214_estimate _
theorem kmeth214_add {g : Gx} (G : GH g) : MethOk g.K 214 "add" 204 := by rw [G.K]; exact meth214_add _
theorem kmeth214_finish {g : Gx} (G : GH g) : MethOk g.K 214 "finish" 211 := by rw [G.K]; exact meth214_finish _
theorem nd214_0 : ([] : List Str).Nodup := nodup_codes [] (by kernel_rfl) (by decide +kernel)
theorem new214_0 : ("interval" : Str) ∉ ([] : List Str) := notin_codes [] 374163151792035682579428996596323779887637140078700 (by kernel_rfl) (by kernel_rfl) (by decide +kernel)
theorem nd214_1 : ([("interval" : Str)] : List Str).Nodup := nodup_codes [374163151792035682579428996596323779887637140078700] (by kernel_rfl) (by decide +kernel)
theorem new214_1 : ("order" : Str) ∉ ([("interval" : Str)] : List Str) := notin_codes [374163151792035682579428996596323779887637140078700] 40566966260610441281315088105586 (by kernel_rfl) (by kernel_rfl) (by decide +kernel)
theorem nd214_2 : ([("interval" : Str), ("order" : Str)] : List Str).Nodup := nodup_codes [374163151792035682579428996596323779887637140078700, 40566966260610441281315088105586] (by kernel_rfl) (by decide +kernel)
theorem new214_2 : ("buffer" : Str) ∉ ([("interval" : Str), ("order" : Str)] : List Str) := notin_codes [374163151792035682579428996596323779887637140078700, 40566966260610441281315088105586] 85074567084780041668349727694387150962 (by kernel_rfl) (by kernel_rfl) (by decide +kernel)
theorem nd214_3 : ([("interval" : Str), ("order" : Str), ("buffer" : Str)] : List Str).Nodup := nodup_codes [374163151792035682579428996596323779887637140078700, 40566966260610441281315088105586, 85074567084780041668349727694387150962] (by kernel_rfl) (by decide +kernel)
theorem new214_3 : ("restarts" : Str) ∉ ([("interval" : Str), ("order" : Str), ("buffer" : Str)] : List Str) := notin_codes [374163151792035682579428996596323779887637140078700, 40566966260610441281315088105586, 85074567084780041668349727694387150962] 374164757444924341418158546559983387023832841715827 (by kernel_rfl) (by kernel_rfl) (by decide +kernel)
theorem nd214_4 : ([("interval" : Str), ("order" : Str), ("buffer" : Str), ("restarts" : Str)] : List Str).Nodup := nodup_codes [374163151792035682579428996596323779887637140078700, 40566966260610441281315088105586, 85074567084780041668349727694387150962, 374164757444924341418158546559983387023832841715827] (by kernel_rfl) (by decide +kernel)
theorem new214_4 : ("since" : Str) ∉ ([("interval" : Str), ("order" : Str), ("buffer" : Str), ("restarts" : Str)] : List Str) := notin_codes [374163151792035682579428996596323779887637140078700, 40566966260610441281315088105586, 85074567084780041668349727694387150962, 374164757444924341418158546559983387023832841715827] 40567043631779886313231037235301 (by kernel_rfl) (by kernel_rfl) (by decide +kernel)
theorem nd214_5 : ([("interval" : Str), ("order" : Str), ("buffer" : Str), ("restarts" : Str), ("since" : Str)] : List Str).Nodup := nodup_codes [374163151792035682579428996596323779887637140078700, 40566966260610441281315088105586, 85074567084780041668349727694387150962, 374164757444924341418158546559983387023832841715827, 40567043631779886313231037235301] (by kernel_rfl) (by decide +kernel)
theorem new214_5 : ("entries" : Str) ∉ ([("interval" : Str), ("order" : Str), ("buffer" : Str), ("restarts" : Str), ("since" : Str)] : List Str) := notin_codes [374163151792035682579428996596323779887637140078700, 40566966260610441281315088105586, 85074567084780041668349727694387150962, 374164757444924341418158546559983387023832841715827, 40567043631779886313231037235301] 178414553722471871185058936552918684272689267 (by kernel_rfl) (by kernel_rfl) (by decide +kernel)
theorem nd214_6 : ([("interval" : Str), ("order" : Str), ("buffer" : Str), ("restarts" : Str), ("since" : Str), ("entries" : Str)] : List Str).Nodup := nodup_codes [374163151792035682579428996596323779887637140078700, 40566966260610441281315088105586, 85074567084780041668349727694387150962, 374164757444924341418158546559983387023832841715827, 40567043631779886313231037235301, 178414553722471871185058936552918684272689267] (by kernel_rfl) (by decide +kernel)
theorem new214_6 : ("finished" : Str) ∉ ([("interval" : Str), ("order" : Str), ("buffer" : Str), ("restarts" : Str), ("since" : Str), ("entries" : Str)] : List Str) := notin_codes [374163151792035682579428996596323779887637140078700, 40566966260610441281315088105586, 85074567084780041668349727694387150962, 374164757444924341418158546559983387023832841715827, 40567043631779886313231037235301, 178414553722471871185058936552918684272689267] 374162616573725564642433588787197651627035664056420 (by kernel_rfl) (by kernel_rfl) (by decide +kernel)
theorem nd214_7 : ([("interval" : Str), ("order" : Str), ("buffer" : Str), ("restarts" : Str), ("since" : Str), ("entries" : Str), ("finished" : Str)] : List Str).Nodup := nodup_codes [374163151792035682579428996596323779887637140078700, 40566966260610441281315088105586, 85074567084780041668349727694387150962, 374164757444924341418158546559983387023832841715827, 40567043631779886313231037235301, 178414553722471871185058936552918684272689267, 374162616573725564642433588787197651627035664056420] (by kernel_rfl) (by decide +kernel)
theorem new214_7 : ("last_key" : Str) ∉ ([("interval" : Str), ("order" : Str), ("buffer" : Str), ("restarts" : Str), ("since" : Str), ("entries" : Str), ("finished" : Str)] : List Str) := notin_codes [374163151792035682579428996596323779887637140078700, 40566966260610441281315088105586, 85074567084780041668349727694387150962, 374164757444924341418158546559983387023832841715827, 40567043631779886313231037235301, 178414553722471871185058936552918684272689267, 374162616573725564642433588787197651627035664056420] 374163687008814529581326814382024478520188719857785 (by kernel_rfl) (by kernel_rfl) (by decide +kernel)
theorem kcls263 {g : Gx} (G : GH g) : ClsOk g.K 263 := by rw [G.K]; exact cls263 _
theorem kfld263_data {g : Gx} (G : GH g) : FldOk g.K 263 "data" := by rw [G.K]; exact fld263_data _
theorem kfld263_order {g : Gx} (G : GH g) : FldOk g.K 263 "order" := by rw [G.K]; exact fld263_order _
theorem kfld263_limit {g : Gx} (G : GH g) : FldOk g.K 263 "limit" := by rw [G.K]; exact fld263_limit _
theorem kfld263_restarts {g : Gx} (G : GH g) : FldOk g.K 263 "restarts" := by rw [G.K]; exact fld263_restarts _
theorem kmeth263_count_restarts {g : Gx} (G : GH g) : MethOk g.K 263 "count_restarts" 239 := by rw [G.K]; exact meth263_count_restarts _
theorem kmeth263_walk {g : Gx} (G : GH g) : MethOk g.K 263 "walk" 246 := by rw [G.K]; exact meth263_walk _
theorem kmeth263_entry_at {g : Gx} (G : GH g) : MethOk g.K 263 "entry_at" 253 := by rw [G.K]; exact meth263_entry_at _
theorem kmeth263_restart_key {g : Gx} (G : GH g) : MethOk g.K 263 "restart_key" 260 := by rw [G.K]; exact meth263_restart_key _
theorem nd263_0 : ([] : List Str).Nodup := nodup_codes [] (by kernel_rfl) (by decide +kernel)
theorem new263_0 : ("data" : Str) ∉ ([] : List Str) := notin_codes [] 19343735451464363027726433 (by kernel_rfl) (by kernel_rfl) (by decide +kernel)
theorem nd263_1 : ([("data" : Str)] : List Str).Nodup := nodup_codes [19343735451464363027726433] (by kernel_rfl) (by decide +kernel)
theorem new263_1 : ("order" : Str) ∉ ([("data" : Str)] : List Str) := notin_codes [19343735451464363027726433] 40566966260610441281315088105586 (by kernel_rfl) (by kernel_rfl) (by decide +kernel)
theorem nd263_2 : ([("data" : Str), ("order" : Str)] : List Str).Nodup := nodup_codes [19343735451464363027726433, 40566966260610441281315088105586] (by kernel_rfl) (by decide +kernel)
theorem new263_2 : ("limit" : Str) ∉ ([("data" : Str), ("order" : Str)] : List Str) := notin_codes [19343735451464363027726433, 40566966260610441281315088105586] 40566908232088089470365436215412 (by kernel_rfl) (by kernel_rfl) (by decide +kernel)
theorem nd263_3 : ([("data" : Str), ("order" : Str), ("limit" : Str)] : List Str).Nodup := nodup_codes [19343735451464363027726433, 40566966260610441281315088105586, 40566908232088089470365436215412] (by kernel_rfl) (by decide +kernel)
theorem new263_3 : ("restarts" : Str) ∉ ([("data" : Str), ("order" : Str), ("limit" : Str)] : List Str) := notin_codes [19343735451464363027726433, 40566966260610441281315088105586, 40566908232088089470365436215412] 374164757444924341418158546559983387023832841715827 (by kernel_rfl) (by kernel_rfl) (by decide +kernel)
theorem kcls375 {g : Gx} (G : GH g) : ClsOk g.K 375 := by rw [G.K]; exact cls375 _
theorem kfld375_block {g : Gx} (G : GH g) : FldOk g.K 375 "block" := by rw [G.K]; exact fld375_block _
theorem kfld375_order {g : Gx} (G : GH g) : FldOk g.K 375 "order" := by rw [G.K]; exact fld375_order _
theorem kfld375_current {g : Gx} (G : GH g) : FldOk g.K 375 "current" := by rw [G.K]; exact fld375_current _
theorem kfld375_ahead {g : Gx} (G : GH g) : FldOk g.K 375 "ahead" := by rw [G.K]; exact fld375_ahead _
theorem kfld375_turn {g : Gx} (G : GH g) : FldOk g.K 375 "turn" := by rw [G.K]; exact fld375_turn _
theorem kfld375_held_key {g : Gx} (G : GH g) : FldOk g.K 375 "held_key" := by rw [G.K]; exact fld375_held_key _
theorem kfld375_value_from {g : Gx} (G : GH g) : FldOk g.K 375 "value_from" := by rw [G.K]; exact fld375_value_from _
theorem kmeth375_lose {g : Gx} (G : GH g) : MethOk g.K 375 "lose" 288 := by rw [G.K]; exact meth375_lose _
theorem kmeth375_need {g : Gx} (G : GH g) : MethOk g.K 375 "need" 295 := by rw [G.K]; exact meth375_need _
theorem kmeth375_valid {g : Gx} (G : GH g) : MethOk g.K 375 "valid" 302 := by rw [G.K]; exact meth375_valid _
theorem kmeth375_key {g : Gx} (G : GH g) : MethOk g.K 375 "key" 309 := by rw [G.K]; exact meth375_key _
theorem kmeth375_value {g : Gx} (G : GH g) : MethOk g.K 375 "value" 316 := by rw [G.K]; exact meth375_value _
theorem kmeth375_go_restart {g : Gx} (G : GH g) : MethOk g.K 375 "go_restart" 323 := by rw [G.K]; exact meth375_go_restart _
theorem kmeth375_parse {g : Gx} (G : GH g) : MethOk g.K 375 "parse" 330 := by rw [G.K]; exact meth375_parse _
theorem kmeth375_seek_first {g : Gx} (G : GH g) : MethOk g.K 375 "seek_first" 337 := by rw [G.K]; exact meth375_seek_first _
theorem kmeth375_seek_last {g : Gx} (G : GH g) : MethOk g.K 375 "seek_last" 344 := by rw [G.K]; exact meth375_seek_last _
theorem kmeth375_seek {g : Gx} (G : GH g) : MethOk g.K 375 "seek" 351 := by rw [G.K]; exact meth375_seek _
theorem kmeth375_narrow {g : Gx} (G : GH g) : MethOk g.K 375 "narrow" 358 := by rw [G.K]; exact meth375_narrow _
theorem kmeth375_step {g : Gx} (G : GH g) : MethOk g.K 375 "step" 365 := by rw [G.K]; exact meth375_step _
theorem kmeth375_back {g : Gx} (G : GH g) : MethOk g.K 375 "back" 372 := by rw [G.K]; exact meth375_back _
theorem nd375_0 : ([] : List Str).Nodup := nodup_codes [] (by kernel_rfl) (by decide +kernel)
theorem new375_0 : ("block" : Str) ∉ ([] : List Str) := notin_codes [] 40566714803984621254604127993963 (by kernel_rfl) (by kernel_rfl) (by decide +kernel)
theorem nd375_1 : ([("block" : Str)] : List Str).Nodup := nodup_codes [40566714803984621254604127993963] (by kernel_rfl) (by decide +kernel)
theorem new375_1 : ("order" : Str) ∉ ([("block" : Str)] : List Str) := notin_codes [40566714803984621254604127993963] 40566966260610441281315088105586 (by kernel_rfl) (by kernel_rfl) (by decide +kernel)
theorem nd375_2 : ([("block" : Str), ("order" : Str)] : List Str).Nodup := nodup_codes [40566714803984621254604127993963, 40566966260610441281315088105586] (by kernel_rfl) (by decide +kernel)
theorem new375_2 : ("current" : Str) ∉ ([("block" : Str), ("order" : Str)] : List Str) := notin_codes [40566714803984621254604127993963, 40566966260610441281315088105586] 178414383581572364411592702023864504148820084 (by kernel_rfl) (by kernel_rfl) (by decide +kernel)
theorem nd375_3 : ([("block" : Str), ("order" : Str), ("current" : Str)] : List Str).Nodup := nodup_codes [40566714803984621254604127993963, 40566966260610441281315088105586, 178414383581572364411592702023864504148820084] (by kernel_rfl) (by decide +kernel)
theorem new375_3 : ("ahead" : Str) ∉ ([("block" : Str), ("order" : Str), ("current" : Str)] : List Str) := notin_codes [40566714803984621254604127993963, 40566966260610441281315088105586, 178414383581572364411592702023864504148820084] 40566695461134613888409444286564 (by kernel_rfl) (by kernel_rfl) (by decide +kernel)
theorem nd375_4 : ([("block" : Str), ("order" : Str), ("current" : Str), ("ahead" : Str)] : List Str).Nodup := nodup_codes [40566714803984621254604127993963, 40566966260610441281315088105586, 178414383581572364411592702023864504148820084, 40566695461134613888409444286564] (by kernel_rfl) (by decide +kernel)
theorem new375_4 : ("turn" : Str) ∉ ([("block" : Str), ("order" : Str), ("current" : Str), ("ahead" : Str)] : List Str) := notin_codes [40566714803984621254604127993963, 40566966260610441281315088105586, 178414383581572364411592702023864504148820084, 40566695461134613888409444286564] 19343883025504913630167150 (by kernel_rfl) (by kernel_rfl) (by decide +kernel)
theorem nd375_5 : ([("block" : Str), ("order" : Str), ("current" : Str), ("ahead" : Str), ("turn" : Str)] : List Str).Nodup := nodup_codes [40566714803984621254604127993963, 40566966260610441281315088105586, 178414383581572364411592702023864504148820084, 40566695461134613888409444286564, 19343883025504913630167150] (by kernel_rfl) (by decide +kernel)
theorem new375_5 : ("held_key" : Str) ∉ ([("block" : Str), ("order" : Str), ("current" : Str), ("ahead" : Str), ("turn" : Str)] : List Str) := notin_codes [40566714803984621254604127993963, 40566966260610441281315088105586, 178414383581572364411592702023864504148820084, 40566695461134613888409444286564, 19343883025504913630167150] 374162973385308458684353179766369921099722053910649 (by kernel_rfl) (by kernel_rfl) (by decide +kernel)
theorem nd375_6 : ([("block" : Str), ("order" : Str), ("current" : Str), ("ahead" : Str), ("turn" : Str), ("held_key" : Str)] : List Str).Nodup := nodup_codes [40566714803984621254604127993963, 40566966260610441281315088105586, 178414383581572364411592702023864504148820084, 40566695461134613888409444286564, 19343883025504913630167150, 374162973385308458684353179766369921099722053910649] (by kernel_rfl) (by decide +kernel)
theorem new375_6 : ("value_from" : Str) ∉ ([("block" : Str), ("order" : Str), ("current" : Str), ("ahead" : Str), ("turn" : Str), ("held_key" : Str)] : List Str) := notin_codes [40566714803984621254604127993963, 40566966260610441281315088105586, 178414383581572364411592702023864504148820084, 40566695461134613888409444286564, 19343883025504913630167150, 374162973385308458684353179766369921099722053910649] 1645597144608095023622290546509964600142806830620256372187463789 (by kernel_rfl) (by kernel_rfl) (by decide +kernel)
theorem kcls466 {g : Gx} (G : GH g) : ClsOk g.K 466 := by rw [G.K]; exact cls466 _
theorem kmeth466_compare {g : Gx} (G : GH g) : MethOk g.K 466 "compare" 407 := by rw [G.K]; exact meth466_compare _
theorem kcls520 {g : Gx} (G : GH g) : ClsOk g.K 520 := by rw [G.K]; exact cls520 _
theorem kfld520_user_order {g : Gx} (G : GH g) : FldOk g.K 520 "user_order" := by rw [G.K]; exact fld520_user_order _
theorem kmeth520_compare {g : Gx} (G : GH g) : MethOk g.K 520 "compare" 489 := by rw [G.K]; exact meth520_compare _
theorem nd520_0 : ([] : List Str).Nodup := nodup_codes [] (by kernel_rfl) (by decide +kernel)
theorem new520_0 : ("user_order" : Str) ∉ ([] : List Str) := notin_codes [] 1645596359977112698583173881353635803658054929637797104474652786 (by kernel_rfl) (by kernel_rfl) (by decide +kernel)
theorem kkeep214 {g : Gx} (G : GH g) : KeepOk g.K (.ref 214) := by rw [G.K]; exact keep_in (by kernel_rfl)
theorem kkeep263 {g : Gx} (G : GH g) : KeepOk g.K (.ref 263) := by rw [G.K]; exact keep_in (by kernel_rfl)
theorem kkeep375 {g : Gx} (G : GH g) : KeepOk g.K (.ref 375) := by rw [G.K]; exact keep_in (by kernel_rfl)
theorem kkeep466 {g : Gx} (G : GH g) : KeepOk g.K (.ref 466) := by rw [G.K]; exact keep_in (by kernel_rfl)
theorem kkeep520 {g : Gx} (G : GH g) : KeepOk g.K (.ref 520) := by rw [G.K]; exact keep_in (by kernel_rfl)
theorem kkeep127 {g : Gx} (G : GH g) : KeepOk g.K (.ref 127) := by rw [G.K]; exact keep_in (keep127 _)
theorem kfn127 {g : Gx} (G : GH g) : FnAt g.K 127 fd127 body127 [("n" : Str)] := by rw [G.K]; exact fn127 _
theorem kkeep134 {g : Gx} (G : GH g) : KeepOk g.K (.ref 134) := by rw [G.K]; exact keep_in (keep134 _)
theorem kfn134 {g : Gx} (G : GH g) : FnAt g.K 134 fd134 body134 [("data" : Str), ("at" : Str)] := by rw [G.K]; exact fn134 _
theorem kkeep141 {g : Gx} (G : GH g) : KeepOk g.K (.ref 141) := by rw [G.K]; exact keep_in (keep141 _)
theorem kfn141 {g : Gx} (G : GH g) : FnAt g.K 141 fd141 body141 [("n" : Str)] := by rw [G.K]; exact fn141 _
theorem kkeep148 {g : Gx} (G : GH g) : KeepOk g.K (.ref 148) := by rw [G.K]; exact keep_in (keep148 _)
theorem kfn148 {g : Gx} (G : GH g) : FnAt g.K 148 fd148 body148 [("data" : Str), ("at" : Str)] := by rw [G.K]; exact fn148 _
theorem kkeep155 {g : Gx} (G : GH g) : KeepOk g.K (.ref 155) := by rw [G.K]; exact keep_in (keep155 _)
theorem kfn155 {g : Gx} (G : GH g) : FnAt g.K 155 fd155 body155 [("data" : Str), ("at" : Str)] := by rw [G.K]; exact fn155 _
theorem kkeep162 {g : Gx} (G : GH g) : KeepOk g.K (.ref 162) := by rw [G.K]; exact keep_in (keep162 _)
theorem kfn162 {g : Gx} (G : GH g) : FnAt g.K 162 fd162 body162 [("a" : Str), ("b" : Str)] := by rw [G.K]; exact fn162 _
theorem kkeep176 {g : Gx} (G : GH g) : KeepOk g.K (.ref 176) := by rw [G.K]; exact keep_in (keep176 _)
theorem kfn176 {g : Gx} (G : GH g) : FnAt g.K 176 fd176 body176 [("self" : Str), ("interval" : Str), ("order" : Str)] := by rw [G.K]; exact fn176 _
theorem kkeep197 {g : Gx} (G : GH g) : KeepOk g.K (.ref 197) := by rw [G.K]; exact keep_in (keep197 _)
theorem kfn197 {g : Gx} (G : GH g) : FnAt g.K 197 fd197 body197 [("self" : Str)] := by rw [G.K]; exact fn197 _
theorem kkeep204 {g : Gx} (G : GH g) : KeepOk g.K (.ref 204) := by rw [G.K]; exact keep_in (keep204 _)
theorem kfn204 {g : Gx} (G : GH g) : FnAt g.K 204 fd204 body204 [("self" : Str), ("key" : Str), ("value" : Str)] := by rw [G.K]; exact fn204 _
theorem kkeep211 {g : Gx} (G : GH g) : KeepOk g.K (.ref 211) := by rw [G.K]; exact keep_in (keep211 _)
theorem kfn211 {g : Gx} (G : GH g) : FnAt g.K 211 fd211 body211 [("self" : Str)] := by rw [G.K]; exact fn211 _
theorem kkeep232 {g : Gx} (G : GH g) : KeepOk g.K (.ref 232) := by rw [G.K]; exact keep_in (keep232 _)
theorem kfn232 {g : Gx} (G : GH g) : FnAt g.K 232 fd232 body232 [("self" : Str), ("data" : Str), ("order" : Str)] := by rw [G.K]; exact fn232 _
theorem kkeep239 {g : Gx} (G : GH g) : KeepOk g.K (.ref 239) := by rw [G.K]; exact keep_in (keep239 _)
theorem kfn239 {g : Gx} (G : GH g) : FnAt g.K 239 fd239 body239 [("self" : Str)] := by rw [G.K]; exact fn239 _
theorem kkeep246 {g : Gx} (G : GH g) : KeepOk g.K (.ref 246) := by rw [G.K]; exact keep_in (keep246 _)
theorem kfn246 {g : Gx} (G : GH g) : FnAt g.K 246 fd246 body246 [("self" : Str)] := by rw [G.K]; exact fn246 _
theorem kkeep253 {g : Gx} (G : GH g) : KeepOk g.K (.ref 253) := by rw [G.K]; exact keep_in (keep253 _)
theorem kfn253 {g : Gx} (G : GH g) : FnAt g.K 253 fd253 body253 [("self" : Str), ("at" : Str)] := by rw [G.K]; exact fn253 _
theorem kkeep260 {g : Gx} (G : GH g) : KeepOk g.K (.ref 260) := by rw [G.K]; exact keep_in (keep260 _)
theorem kfn260 {g : Gx} (G : GH g) : FnAt g.K 260 fd260 body260 [("self" : Str), ("turn" : Str)] := by rw [G.K]; exact fn260 _
theorem kkeep281 {g : Gx} (G : GH g) : KeepOk g.K (.ref 281) := by rw [G.K]; exact keep_in (keep281 _)
theorem kfn281 {g : Gx} (G : GH g) : FnAt g.K 281 fd281 body281 [("self" : Str), ("block" : Str)] := by rw [G.K]; exact fn281 _
theorem kkeep288 {g : Gx} (G : GH g) : KeepOk g.K (.ref 288) := by rw [G.K]; exact keep_in (keep288 _)
theorem kfn288 {g : Gx} (G : GH g) : FnAt g.K 288 fd288 body288 [("self" : Str)] := by rw [G.K]; exact fn288 _
theorem kkeep295 {g : Gx} (G : GH g) : KeepOk g.K (.ref 295) := by rw [G.K]; exact keep_in (keep295 _)
theorem kfn295 {g : Gx} (G : GH g) : FnAt g.K 295 fd295 body295 [("self" : Str)] := by rw [G.K]; exact fn295 _
theorem kkeep302 {g : Gx} (G : GH g) : KeepOk g.K (.ref 302) := by rw [G.K]; exact keep_in (keep302 _)
theorem kfn302 {g : Gx} (G : GH g) : FnAt g.K 302 fd302 body302 [("self" : Str)] := by rw [G.K]; exact fn302 _
theorem kkeep309 {g : Gx} (G : GH g) : KeepOk g.K (.ref 309) := by rw [G.K]; exact keep_in (keep309 _)
theorem kfn309 {g : Gx} (G : GH g) : FnAt g.K 309 fd309 body309 [("self" : Str)] := by rw [G.K]; exact fn309 _
theorem kkeep316 {g : Gx} (G : GH g) : KeepOk g.K (.ref 316) := by rw [G.K]; exact keep_in (keep316 _)
theorem kfn316 {g : Gx} (G : GH g) : FnAt g.K 316 fd316 body316 [("self" : Str)] := by rw [G.K]; exact fn316 _
theorem kkeep323 {g : Gx} (G : GH g) : KeepOk g.K (.ref 323) := by rw [G.K]; exact keep_in (keep323 _)
theorem kfn323 {g : Gx} (G : GH g) : FnAt g.K 323 fd323 body323 [("self" : Str), ("turn" : Str)] := by rw [G.K]; exact fn323 _
theorem kkeep330 {g : Gx} (G : GH g) : KeepOk g.K (.ref 330) := by rw [G.K]; exact keep_in (keep330 _)
theorem kfn330 {g : Gx} (G : GH g) : FnAt g.K 330 fd330 body330 [("self" : Str)] := by rw [G.K]; exact fn330 _
theorem kkeep337 {g : Gx} (G : GH g) : KeepOk g.K (.ref 337) := by rw [G.K]; exact keep_in (keep337 _)
theorem kfn337 {g : Gx} (G : GH g) : FnAt g.K 337 fd337 body337 [("self" : Str)] := by rw [G.K]; exact fn337 _
theorem kkeep344 {g : Gx} (G : GH g) : KeepOk g.K (.ref 344) := by rw [G.K]; exact keep_in (keep344 _)
theorem kfn344 {g : Gx} (G : GH g) : FnAt g.K 344 fd344 body344 [("self" : Str)] := by rw [G.K]; exact fn344 _
theorem kkeep351 {g : Gx} (G : GH g) : KeepOk g.K (.ref 351) := by rw [G.K]; exact keep_in (keep351 _)
theorem kfn351 {g : Gx} (G : GH g) : FnAt g.K 351 fd351 body351 [("self" : Str), ("target" : Str)] := by rw [G.K]; exact fn351 _
theorem kkeep358 {g : Gx} (G : GH g) : KeepOk g.K (.ref 358) := by rw [G.K]; exact keep_in (keep358 _)
theorem kfn358 {g : Gx} (G : GH g) : FnAt g.K 358 fd358 body358 [("self" : Str), ("target" : Str)] := by rw [G.K]; exact fn358 _
theorem kkeep365 {g : Gx} (G : GH g) : KeepOk g.K (.ref 365) := by rw [G.K]; exact keep_in (keep365 _)
theorem kfn365 {g : Gx} (G : GH g) : FnAt g.K 365 fd365 body365 [("self" : Str)] := by rw [G.K]; exact fn365 _
theorem kkeep372 {g : Gx} (G : GH g) : KeepOk g.K (.ref 372) := by rw [G.K]; exact keep_in (keep372 _)
theorem kfn372 {g : Gx} (G : GH g) : FnAt g.K 372 fd372 body372 [("self" : Str)] := by rw [G.K]; exact fn372 _
theorem kkeep386 {g : Gx} (G : GH g) : KeepOk g.K (.ref 386) := by rw [G.K]; exact keep_in (keep386 _)
theorem kfn386 {g : Gx} (G : GH g) : FnAt g.K 386 fd386 body386 [("ik" : Str)] := by rw [G.K]; exact fn386 _
theorem kkeep393 {g : Gx} (G : GH g) : KeepOk g.K (.ref 393) := by rw [G.K]; exact keep_in (keep393 _)
theorem kfn393 {g : Gx} (G : GH g) : FnAt g.K 393 fd393 body393 [("ik" : Str)] := by rw [G.K]; exact fn393 _
theorem kkeep407 {g : Gx} (G : GH g) : KeepOk g.K (.ref 407) := by rw [G.K]; exact keep_in (keep407 _)
theorem kfn407 {g : Gx} (G : GH g) : FnAt g.K 407 fd407 body407 [("self" : Str), ("a" : Str), ("b" : Str)] := by rw [G.K]; exact fn407 _
theorem kkeep482 {g : Gx} (G : GH g) : KeepOk g.K (.ref 482) := by rw [G.K]; exact keep_in (keep482 _)
theorem kfn482 {g : Gx} (G : GH g) : FnAt g.K 482 fd482 body482 [("self" : Str)] := by rw [G.K]; exact fn482 _
theorem kkeep489 {g : Gx} (G : GH g) : KeepOk g.K (.ref 489) := by rw [G.K]; exact keep_in (keep489 _)
theorem kfn489 {g : Gx} (G : GH g) : FnAt g.K 489 fd489 body489 [("self" : Str), ("a" : Str), ("b" : Str)] := by rw [G.K]; exact fn489 _
theorem kkeep529 {g : Gx} (G : GH g) : KeepOk g.K (.ref 529) := by rw [G.K]; exact keep_in (keep529 _)
theorem kfn529 {g : Gx} (G : GH g) : FnAt g.K 529 fd529 body529 [("nums" : Str), ("i" : Str)] := by rw [G.K]; exact fn529 _
theorem kkeep536 {g : Gx} (G : GH g) : KeepOk g.K (.ref 536) := by rw [G.K]; exact keep_in (keep536 _)
theorem kfn536 {g : Gx} (G : GH g) : FnAt g.K 536 fd536 body536 [("v" : Str)] := by rw [G.K]; exact fn536 _
theorem kkeep543 {g : Gx} (G : GH g) : KeepOk g.K (.ref 543) := by rw [G.K]; exact keep_in (keep543 _)
theorem kfn543 {g : Gx} (G : GH g) : FnAt g.K 543 fd543 body543 [("v" : Str), ("half" : Str), ("internal" : Str)] := by rw [G.K]; exact fn543 _
theorem kkeep550 {g : Gx} (G : GH g) : KeepOk g.K (.ref 550) := by rw [G.K]; exact keep_in (keep550 _)
theorem kfn550 {g : Gx} (G : GH g) : FnAt g.K 550 fd550 body550 [("n" : Str)] := by rw [G.K]; exact fn550 _
theorem kkeep562 {g : Gx} (G : GH g) : KeepOk g.K (.ref 562) := by rw [G.K]; exact keep_in (keep562 _)
theorem kfn562 {g : Gx} (G : GH g) : FnAt g.K 562 fd562 body562 [("out" : Str), ("places" : Str), ("r" : Str), ("order" : Str)] := by rw [G.K]; exact fn562 _
theorem kkeep569 {g : Gx} (G : GH g) : KeepOk g.K (.ref 569) := by rw [G.K]; exact keep_in (keep569 _)
theorem kfn569 {g : Gx} (G : GH g) : FnAt g.K 569 fd569 body569 [("walker" : Str), ("keys" : Str), ("values" : Str), ("at" : Str)] := by rw [G.K]; exact fn569 _
theorem kkeep576 {g : Gx} (G : GH g) : KeepOk g.K (.ref 576) := by rw [G.K]; exact keep_in (keep576 _)
theorem kfn576 {g : Gx} (G : GH g) : FnAt g.K 576 fd576 body576 [("walker" : Str), ("keys" : Str), ("values" : Str), ("at" : Str), ("back" : Str)] := by rw [G.K]; exact fn576 _
theorem kkeep583 {g : Gx} (G : GH g) : KeepOk g.K (.ref 583) := by rw [G.K]; exact keep_in (keep583 _)
theorem kfn583 {g : Gx} (G : GH g) : FnAt g.K 583 fd583 body583 [("walker" : Str), ("spots" : Str), ("z" : Str), ("way" : Str), ("at" : Str), ("internal" : Str)] := by rw [G.K]; exact fn583 _
theorem makes214 (P : Params) : MakesOk (HK P) 214 176 := ⟨by kernel_rfl, by kernel_rfl, by kernel_rfl⟩
theorem kmakes214 {g : Gx} (G : GH g) : MakesOk g.K 214 176 := by rw [G.K]; exact makes214 _
theorem makes263 (P : Params) : MakesOk (HK P) 263 232 := ⟨by kernel_rfl, by kernel_rfl, by kernel_rfl⟩
theorem kmakes263 {g : Gx} (G : GH g) : MakesOk g.K 263 232 := by rw [G.K]; exact makes263 _
theorem makes375 (P : Params) : MakesOk (HK P) 375 281 := ⟨by kernel_rfl, by kernel_rfl, by kernel_rfl⟩
theorem kmakes375 {g : Gx} (G : GH g) : MakesOk g.K 375 281 := by rw [G.K]; exact makes375 _
theorem makes520 (P : Params) : MakesOk (HK P) 520 482 := ⟨by kernel_rfl, by kernel_rfl, by kernel_rfl⟩
theorem kmakes520 {g : Gx} (G : GH g) : MakesOk g.K 520 482 := by rw [G.K]; exact makes520 _
theorem makes466 (P : Params) : makesIn (HK P) 466 = true := by kernel_rfl
theorem init466 (P : Params) : findIn (HK P) (.ref 466) "__init__" = some (some (.builtin "object.__init__")) := by kernel_rfl
theorem kmakes466 {g : Gx} (G : GH g) : makesIn g.K 466 = true := by rw [G.K]; exact makes466 _
theorem kinit466 {g : Gx} (G : GH g) : findIn g.K (.ref 466) "__init__" = some (some (.builtin "object.__init__")) := by rw [G.K]; exact init466 _
noncomputable def X555 : { b : Option FuncData // fdAt (objAt 555) = b } := by
  refine ⟨?b, ?h⟩
  rotate_left
  · conv => lhs; whnf
noncomputable def fd555 : FuncData := fdOf X555.1
noncomputable def Y555 : { b : List Stmt // bodyOf fd555 = b } := by
  refine ⟨?b, ?h⟩
  rotate_left
  · conv => lhs; whnf
noncomputable abbrev body555 : List Stmt := Y555.1
theorem fn555 (P : Params) : FnAt (HK P) 555 fd555 body555 [("keys" : Str), ("values" : Str), ("interval" : Str), ("order" : Str)] where
  obj := ⟨objAt 555, by kernel_rfl, by kernel_rfl⟩
  code := ⟨554, objAt 554, fieldsAt (objAt 554), tokAt (objAt 554), by kernel_rfl, by kernel_rfl, by kernel_rfl, by kernel_rfl⟩
  body := by kernel_rfl
  bind := ar4 fun v0 v1 v2 v3 => by kernel_rfl
  glob := by kernel_rfl
  bi := by kernel_rfl
  kind := by kernel_rfl
  co := by kernel_rfl
  gen := by kernel_rfl
  nd := nodup_codes [19343800015086213207687283, 85075378380777331528230302440358936691, 374163151792035682579428996596323779887637140078700, 40566966260610441281315088105586, 178414298510980634002891462815469425855037554, 19343717004781861935775865, 85075134992074858550980218237852057715, 2097258, 9223842628043276409, 40567101660145440830340529651813, 85075256686455109208547491624876245092, 9223860220262875252, 40566985603368214869966611021925, 7237233335139420881863685781345967610515241997622041706458902361457234542706, 40567024288892985502869412118629, 9223847026089787502, 9223851424127910008, 40566714804104525113073476829299, 3451029496412968318011132732041130808400468515045108078268556064587890] (by kernel_rfl) (by decide +kernel)
  dbg := dbg_codes [19343800015086213207687283, 85075378380777331528230302440358936691, 374163151792035682579428996596323779887637140078700, 40566966260610441281315088105586, 178414298510980634002891462815469425855037554, 19343717004781861935775865, 85075134992074858550980218237852057715, 2097258, 9223842628043276409, 40567101660145440830340529651813, 85075256686455109208547491624876245092, 9223860220262875252, 40566985603368214869966611021925, 7237233335139420881863685781345967610515241997622041706458902361457234542706, 40567024288892985502869412118629, 9223847026089787502, 9223851424127910008, 40566714804104525113073476829299, 3451029496412968318011132732041130808400468515045108078268556064587890] (by kernel_rfl) (by decide +kernel)
theorem g555_BlockBuilder : (("BlockBuilder" : Str), NameKind.globalImplicit) ∈ fd555.scope.names := (mem_ix 13 (by kernel_rfl))
theorem g555_range : (("range" : Str), NameKind.globalImplicit) ∈ fd555.scope.names := (mem_ix 14 (by kernel_rfl))
theorem g555_len : (("len" : Str), NameKind.globalImplicit) ∈ fd555.scope.names := (mem_ix 15 (by kernel_rfl))
theorem g555_max : (("max" : Str), NameKind.globalImplicit) ∈ fd555.scope.names := (mem_ix 16 (by kernel_rfl))
theorem g555_bytes : (("bytes" : Str), NameKind.globalImplicit) ∈ fd555.scope.names := (mem_ix 17 (by kernel_rfl))
theorem g555__law_number : (("_law_number" : Str), NameKind.globalImplicit) ∈ fd555.scope.names := (mem_ix 18 (by kernel_rfl))
noncomputable def X588 : { b : Option FuncData // fdAt (objAt 588) = b } := by
  refine ⟨?b, ?h⟩
  rotate_left
  · conv => lhs; whnf
noncomputable def fd588 : FuncData := fdOf X588.1
noncomputable def Y588 : { b : List Stmt // bodyOf fd588 = b } := by
  refine ⟨?b, ?h⟩
  rotate_left
  · conv => lhs; whnf
noncomputable abbrev body588 : List Stmt := Y588.1
theorem fn588 (P : Params) : FnAt (HK P) 588 fd588 body588 [("script" : Str)] where
  obj := ⟨objAt 588, by kernel_rfl, by kernel_rfl⟩
  code := ⟨587, objAt 587, fieldsAt (objAt 587), tokAt (objAt 587), by kernel_rfl, by kernel_rfl, by kernel_rfl, by kernel_rfl⟩
  body := by kernel_rfl
  bind := ar1 fun v0 => by kernel_rfl
  glob := by kernel_rfl
  bi := by kernel_rfl
  kind := by kernel_rfl
  co := by kernel_rfl
  gen := by kernel_rfl
  nd := nodup_codes [85075256686358395299775606335035408500, 2097272, 19343827685272692491026547, 2097273, 2097267, 40566908232014302516060826370149, 40566811518105530613178763837556, 374163151792035682579428996596323779852452767989868, 374163151792035682579428996596323779887637140078700, 40566734146825405231169789755508, 40566966260610441281315088105586, 40567043631844449921887102828659, 85075378380777331528230302440358936691, 2097270, 2097258, 19343800015086213207687283, 40566714804067631576547560783988, 9223860220262875252, 85075134992074858550980218237852057715, 2097266, 40566714803984621254604127993963, 85075418945596538831571106354396397682, 4398249934964, 40567062974703680629332298956915, 19343883025504913630167150, 2097274, 9223895404593021049, 19343717004720289282523243, 9223847026089787502, 784673260662422835141827074958457798855947718253338427511, 1645556343455794477684333012985217294387160471764627138713485426, 15177629022300249861652005095698717799378218075102398100578084561258658141392863346, 40567024288892985502869412118629, 40566714804104525113073476829299, 1645579097944721373563352933903279689747662870672908351254298724, 7237333410461449334053683031265521557438941065147574243650427220887647289459, 40566095833964978564466678431851, 3451029496412968318011132732041130808603292495024819886501912882708596, 3451029496412968318011132732041130808603292591738700988262296080875635, 1645579097944721373563352933903279689960433759584908039463895140] (by kernel_rfl) (by decide +kernel)
  dbg := dbg_codes [85075256686358395299775606335035408500, 2097272, 19343827685272692491026547, 2097273, 2097267, 40566908232014302516060826370149, 40566811518105530613178763837556, 374163151792035682579428996596323779852452767989868, 374163151792035682579428996596323779887637140078700, 40566734146825405231169789755508, 40566966260610441281315088105586, 40567043631844449921887102828659, 85075378380777331528230302440358936691, 2097270, 2097258, 19343800015086213207687283, 40566714804067631576547560783988, 9223860220262875252, 85075134992074858550980218237852057715, 2097266, 40566714803984621254604127993963, 85075418945596538831571106354396397682, 4398249934964, 40567062974703680629332298956915, 19343883025504913630167150, 2097274, 9223895404593021049, 19343717004720289282523243, 9223847026089787502, 784673260662422835141827074958457798855947718253338427511, 1645556343455794477684333012985217294387160471764627138713485426, 15177629022300249861652005095698717799378218075102398100578084561258658141392863346, 40567024288892985502869412118629, 40566714804104525113073476829299, 1645579097944721373563352933903279689747662870672908351254298724, 7237333410461449334053683031265521557438941065147574243650427220887647289459, 40566095833964978564466678431851, 3451029496412968318011132732041130808603292495024819886501912882708596, 3451029496412968318011132732041130808603292591738700988262296080875635, 1645579097944721373563352933903279689960433759584908039463895140] (by kernel_rfl) (by decide +kernel)
theorem g588_len : (("len" : Str), NameKind.globalImplicit) ∈ fd588.scope.names := (mem_ix 28 (by kernel_rfl))
theorem g588__law_draw : (("_law_draw" : Str), NameKind.globalImplicit) ∈ fd588.scope.names := (mem_ix 29 (by kernel_rfl))
theorem g588_BytesOrder : (("BytesOrder" : Str), NameKind.globalImplicit) ∈ fd588.scope.names := (mem_ix 30 (by kernel_rfl))
theorem g588_InternalOrder : (("InternalOrder" : Str), NameKind.globalImplicit) ∈ fd588.scope.names := (mem_ix 31 (by kernel_rfl))
theorem g588_range : (("range" : Str), NameKind.globalImplicit) ∈ fd588.scope.names := (mem_ix 32 (by kernel_rfl))
theorem g588_bytes : (("bytes" : Str), NameKind.globalImplicit) ∈ fd588.scope.names := (mem_ix 33 (by kernel_rfl))
theorem g588__law_build : (("_law_build" : Str), NameKind.globalImplicit) ∈ fd588.scope.names := (mem_ix 34 (by kernel_rfl))
theorem g588__law_refuses : (("_law_refuses" : Str), NameKind.globalImplicit) ∈ fd588.scope.names := (mem_ix 35 (by kernel_rfl))
theorem g588_Block : (("Block" : Str), NameKind.globalImplicit) ∈ fd588.scope.names := (mem_ix 36 (by kernel_rfl))
theorem g588__law_sought : (("_law_sought" : Str), NameKind.globalImplicit) ∈ fd588.scope.names := (mem_ix 37 (by kernel_rfl))
theorem g588__law_stands : (("_law_stands" : Str), NameKind.globalImplicit) ∈ fd588.scope.names := (mem_ix 38 (by kernel_rfl))
theorem g588__law_moved : (("_law_moved" : Str), NameKind.globalImplicit) ∈ fd588.scope.names := (mem_ix 39 (by kernel_rfl))
theorem keep555 (P : Params) : keepIn (HK P) (.ref 555) = true := by kernel_rfl
theorem keep588 (P : Params) : keepIn (HK P) (.ref 588) = true := by kernel_rfl
theorem clo555 : fd555.closure = [] := by kernel_rfl
theorem kkeep555 {g : Gx} (G : GH g) : KeepOk g.K (.ref 555) := by rw [G.K]; exact keep_in (keep555 _)
theorem kfn555 {g : Gx} (G : GH g) : FnAt g.K 555 fd555 body555 [("keys" : Str), ("values" : Str), ("interval" : Str), ("order" : Str)] := by rw [G.K]; exact fn555 _
theorem clo588 : fd588.closure = [] := by kernel_rfl
theorem kkeep588 {g : Gx} (G : GH g) : KeepOk g.K (.ref 588) := by rw [G.K]; exact keep_in (keep588 _)
theorem kfn588 {g : Gx} (G : GH g) : FnAt g.K 588 fd588 body588 [("script" : Str)] := by rw [G.K]; exact fn588 _
theorem toB_length (ns : List Int) : (toB ns).length = ns.length := List.length_map ..
noncomputable def u32 (d : List UInt8) (k : Nat) : Nat := (d.getD k 0).toNat + 256 * (d.getD (k + 1) 0).toNat + 65536 * (d.getD (k + 2) 0).toNat + 16777216 * (d.getD (k + 3) 0).toNat
noncomputable def b32 (n : Nat) : List UInt8 := [(n % 256).toUInt8, (n / 256 % 256).toUInt8, (n / 65536 % 256).toUInt8, (n / 16777216).toUInt8]
noncomputable def OrdIn (o : Addr) (internal : Bool) (led : Led) : Prop :=
  if internal then ∃ bo dx dy, (o, Ob.inst 520 dx [("user_order", .cst (.ref bo))]) ∈ led ∧ (bo, Ob.inst 466 dy []) ∈ led else ∃ dx, (o, Ob.inst 466 dx []) ∈ led
theorem OrdIn.mono {o : Addr} {internal : Bool} {l l' : Led} (h : OrdIn o internal l) (k : ∀ p ∈ l, p ∈ l') : OrdIn o internal l' := by
  unfold OrdIn at h ⊢
  split at h
  · rename_i hi
    obtain ⟨bo, dx, dy, a, b⟩ := h
    rw [if_pos hi]; exact ⟨bo, dx, dy, k _ a, k _ b⟩
  · rename_i hi
    obtain ⟨dx, a⟩ := h
    rw [if_neg hi]; exact ⟨dx, k _ a⟩
noncomputable def natsV (ns : List Nat) : List V := ns.map (fun (n : Nat) => V.int (n : Int))
theorem natsV_length (ns : List Nat) : (natsV ns).length = ns.length := List.length_map ..
theorem b32_length (n : Nat) : (b32 n).length = 4 := rfl
noncomputable def cntOf (d : List UInt8) : Nat := u32 d (d.length - 4)
noncomputable def limOf (d : List UInt8) : Nat := d.length - 4 * (cntOf d + 1)
noncomputable def tabOf (d : List UInt8) (k : Nat) : Nat := u32 d (limOf d + 4 * k)
noncomputable def tabs (d : List UInt8) (k : Nat) : List Nat := (List.range k).map (tabOf d)
theorem tabs_length (d : List UInt8) (k : Nat) : (tabs d k).length = k := by simp [tabs]
theorem natsV_item {ns : List Nat} {i : Int} (h0 : 0 ≤ i) (h1 : i < ns.length) : (natsV ns)[i.toNat]? = some (.int (ns.getD i.toNat 0 : Nat)) := by
  have : i.toNat < ns.length := by walk_at "o"
  simp [natsV, List.getD_eq_getElem?_getD, List.getElem?_eq_getElem this]
noncomputable def bytesV (ns : List (List UInt8)) : List V := ns.map V.bytes
theorem bytesV_length (ns : List (List UInt8)) : (bytesV ns).length = ns.length := List.length_map ..
theorem bytesV_item {ns : List (List UInt8)} {i : Int} (h0 : 0 ≤ i) (h1 : i < ns.length) : (bytesV ns)[i.toNat]? = some (.bytes (ns.getD i.toNat [])) := by
  have : i.toNat < ns.length := by walk_at "o"
  simp [bytesV, List.getD_eq_getElem?_getD, List.getElem?_eq_getElem this]
local macro_rules
  | `(tactic| walk_at "mem") => `(tactic| repeat (first | assumption | exact List.Mem.head _ | refine List.Mem.tail _ ?_))
  | `(tactic| walk_at "upd") => `(tactic| repeat (first | exact Upd.head _ | apply Upd.tail))
  | `(tactic| walk_at "len") => `(tactic| exact Nat.le_of_ble_eq_true rfl)
  | `(tactic| walk_at "sl") => `(tactic| simp only [List.length_append, List.length_cons, List.length_nil, toB_length, List.length_drop, b32_length, natsV_length, tabs_length, bytesV_length])
  | `(tactic| walk_at "sc") => `(tactic| first | assumption | lia | omega | (walk_at "sl"; walk_at "o"))
  | `(tactic| walk_at "so") => `(tactic| first | omega | (walk_at "sl"; omega))
  | `(tactic| walk_at "hp") => `(tactic| try simp only [decide_eq_true_eq, decide_eq_false_iff_not, Bool.and_eq_true, Bool.and_eq_false_imp, Bool.or_eq_true, Bool.or_eq_false_iff] at *)
  | `(tactic| walk_at "octs") => `(tactic| (simp only [List.forall_mem_cons]; repeat' (first | apply And.intro | (intro _ h; cases h) | walk_at "sc")))
  | `(tactic| walk_at "ord") => `(tactic| exact OrdIn.mono (by assumption) (fun p hp => by repeat (first | exact hp | apply List.Mem.tail)))
  | `(tactic| walk_at "item") => `(tactic| first | exact natsV_item (by walk_at "sc") (by walk_at "sc") | exact bytesV_item (by walk_at "sc") (by walk_at "sc"))
  | `(tactic| walk_at "sub") => `(tactic| repeat (first | exact Sub.refl _ | exact Sub.nil _ | (apply Sub.take; · (repeat (first | exact Take.head _ | apply Take.tail)))))
noncomputable def lcp : List UInt8 → List UInt8 → Nat
  | x :: xs, y :: ys => if x = y then lcp xs ys + 1 else 0
  | _, _ => 0
theorem lcp_le : ∀ a b : List UInt8, lcp a b ≤ a.length ∧ lcp a b ≤ b.length
  | x :: xs, y :: ys => by
    have := lcp_le xs ys
    unfold lcp
    split <;> simp <;> (walk_at "o")
  | [], _ => by simp [lcp]
  | _ :: _, [] => by simp [lcp]
theorem lcp_step : ∀ (a b : List UInt8) (i : Nat), i ≤ lcp a b → i < a.length → i < b.length → (a.getD i 0 = b.getD i 0 ↔ i < lcp a b)
  | x :: xs, y :: ys, 0, _, _, _ => by
    unfold lcp
    by_cases h : x = y <;> simp [h]
  | x :: xs, y :: ys, i + 1, h, h1, h2 => by
    unfold lcp at h ⊢
    by_cases e : x = y
    · rw [if_pos e] at h ⊢
      have := lcp_step xs ys i (by walk_at "o") (by simpa using h1) (by simpa using h2)
      simpa using this
    · rw [if_neg e] at h; (walk_at "o")
  | [], _, _, _, h, _ => by simp at h
  | _ :: _, [], _, _, _, h => by simp at h
theorem shared_prefix_spec {g : Gx} (G : GH g) (a b : List UInt8) (ha : a.length ≤ 16777216) (hb : b.length ≤ 16777216) (led : Led) :
    FnS g 1 162 [.bytes a, .bytes b] led (fun v led' => v = .int (lcp a b) ∧ led' = led) NoX := by
  refine fnS (kfn162 G) loc162 noc162 clo162 rfl fun c hg hn he => ?_
  subst hg
  have F := kfn162 G
  show WSs c _ _ ⟨[("a", .bytes a), ("b", .bytes b), ("most", .unset), ("at", .unset)], [], [], led⟩ _
  refine ss_cons ?_
  refine s_assign ?_ rfl
  refine e_call ?_ rfl rfl
  refine e_gl F he g162_len (has_len G) ?_
  refine ⟨_, rfl, keep_builtin, ?_⟩
  refine sw_cons ?_
  refine e_loc (.head _) rfl ?_
  refine sw_nil ?_
  refine call_lenB (by walk_at "sc") ?_
  refine ⟨_, (.tail _ (.tail _ (.head _ _))), ?_⟩
  refine ss_cut (fun σ' => σ' = ⟨[("a", .bytes a), ("b", .bytes b), ("most", .int (min a.length b.length : Nat)), ("at", .unset)], [], [], led⟩) ?_ ?_
  · apply s_ifp
    · apply bp_cmp (hm := rfl)
      refine e_call ?_ rfl rfl
      refine e_gl F he g162_len (has_len G) ?_
      refine ⟨_, rfl, keep_builtin, ?_⟩
      refine sw_cons ?_
      refine e_loc (.tail _ (.head _)) rfl ?_
      refine sw_nil ?_
      refine call_lenB (by walk_at "sc") ?_
      refine e_loc (.tail _ (.tail _ (.head _))) rfl ?_
      refine c_lt ?_
      refine t_bool ⟨rfl, rfl⟩
    · intro hp
      walk_at "hp"
      refine ss_cons ?_
      refine s_assign ?_ rfl
      refine e_call ?_ rfl rfl
      refine e_gl F he g162_len (has_len G) ?_
      refine ⟨_, rfl, keep_builtin, ?_⟩
      refine sw_cons ?_
      refine e_loc (.tail _ (.head _)) rfl ?_
      refine sw_nil ?_
      refine call_lenB (by walk_at "sc") ?_
      refine ⟨_, (.tail _ (.tail _ (.head _ _))), ?_⟩
      refine ss_nil ?_
      exact ⟨rfl, by rw [show min a.length b.length = b.length by walk_at "o"]⟩
    · intro hp
      walk_at "hp"
      refine ss_nil ?_
      exact ⟨rfl, by rw [show min a.length b.length = a.length by walk_at "o"]⟩
  · rintro _ rfl
    refine ss_cons ?_
    refine s_assign ?_ rfl
    refine e_int ?_
    refine ⟨_, (.tail _ (.tail _ (.tail _ (.head _ _)))), ?_⟩
    refine ss_cons ?_
    have hle := lcp_le a b
    refine s_whilep (fun n σ' => ∃ i : Nat, n + i = lcp a b ∧ σ' = ⟨[("a", .bytes a), ("b", .bytes b), ("most", .int (min a.length b.length : Nat)), ("at", .int i)], [], [], led⟩) ?_ (lcp a b) ⟨0, rfl, rfl⟩
    rintro n _ ⟨i, hi, rfl⟩
    refine ⟨decide ((i : Int) < (min a.length b.length : Nat)) && decide (((a.getD i 0).toNat : Int) = ((b.getD i 0).toNat : Int)), ?_, ?_, ?_⟩
    · apply bp_and
      · apply bp_cmp (hm := rfl)
        refine e_loc (mem_ix 3 rfl) rfl ?_
        refine e_loc (.tail _ (.tail _ (.head _))) rfl ?_
        refine c_lt ?_
        refine t_bool ⟨rfl, rfl⟩
      · intro hp
        walk_at "hp"
        apply bp_cmp (hm := rfl)
        refine e_sub ?_
        refine e_loc (.head _) rfl ?_
        refine e_loc (mem_ix 3 rfl) rfl ?_
        refine so_bytes (by walk_at "sc") (by walk_at "sc") (by walk_at "sc") ?_
        refine e_sub ?_
        refine e_loc (.tail _ (.head _)) rfl ?_
        refine e_loc (mem_ix 3 rfl) rfl ?_
        refine so_bytes (by walk_at "sc") (by walk_at "sc") (by walk_at "sc") ?_
        refine c_eq ?_
        refine t_bool ⟨rfl, rfl⟩
    · intro hp
      simp only [Bool.and_eq_true, decide_eq_true_eq] at hp
      have hi2 : i < lcp a b := (lcp_step a b i (by walk_at "o") (by walk_at "o") (by walk_at "o")).mp (UInt8.toNat_inj.mp (by walk_at "o"))
      refine ss_cons ?_
      refine s_aug (mem_ix 3 rfl) rfl ?_
      refine e_int ?_
      refine io_add ?_
      refine ⟨_, (.tail _ (.tail _ (.tail _ (.head _ _)))), ?_⟩
      refine ss_nil ?_
      exact ⟨n - 1, led, by walk_at "o", .refl _, i + 1, by walk_at "o", rfl⟩
    · intro hp
      have hi2 : i = lcp a b := by
        by_cases hlt : i < lcp a b
        · have := (lcp_step a b i (by walk_at "o") (by walk_at "o") (by walk_at "o")).mpr hlt
          rw [this] at hp
          simp only [decide_true, Bool.and_true, decide_eq_false_iff_not] at hp
          (walk_at "o")
        · (walk_at "o")
      refine ss_cons ?_
      refine s_ret ?_
      refine e_loc (mem_ix 3 rfl) rfl ?_
      exact ⟨led, .refl _, by rw [hi2], rfl⟩
theorem put_varint32_spec {g : Gx} (G : GH g) (n : Int) (h0 : 0 ≤ n) (h1 : n < 128) (led : Led) : FnS g 1 127 [.int n] led (fun v led' => v = .bytes (toB [n]) ∧ led' = led) NoX := by
  refine fnS (kfn127 G) loc127 noc127 clo127 rfl fun c hg hn he => ?_
  subst hg
  have F := kfn127 G
  show WSs c _ _ ⟨[("n", .int n)], [], [], led⟩ _
  refine ss_cons ?_
  apply s_ifp
  · apply bp_and
    · apply bp_cmp (hm := rfl)
      refine e_loc (.head _) rfl ?_
      refine e_int ?_
      refine c_ge ?_
      refine t_bool ⟨rfl, rfl⟩
    · intro hp
      walk_at "hp"
      apply bp_cmp (hm := rfl)
      refine e_loc (.head _) rfl ?_
      refine e_int ?_
      refine c_lt ?_
      refine t_bool ⟨rfl, rfl⟩
  · intro hp
    refine ss_cons ?_
    refine s_ret ?_
    refine e_call ?_ rfl rfl
    refine e_gl F he g127_bytes (has_bytes G) ?_
    refine ⟨_, rfl, keep_type, ?_⟩
    refine sw_cons ?_
    refine e_list rfl ?_
    refine sw_cons ?_
    refine e_loc (.head _) rfl ?_
    refine sw_nil ⟨Nat.le_of_ble_eq_true rfl, fun _ => ?_⟩
    refine sw_nil ?_
    refine call_bytesN [_] (.head _) rfl (by walk_at "octs") (Nat.le_of_ble_eq_true rfl) ?_
    exact ⟨led, .skip (.refl _), rfl, rfl⟩
  · intro hp
    exfalso
    simp only [Bool.and_eq_false_imp, decide_eq_true_eq, decide_eq_false_iff_not] at hp
    (walk_at "o")
theorem read_varint32_spec {g : Gx} (G : GH g) (d : List UInt8) (at_ : Int) (hz : d.length ≤ 16777216) (h0 : 0 ≤ at_) (h1 : at_ < d.length) (h2 : (d.getD at_.toNat 0).toNat < 128) (led : Led) :
    FnS g 1 134 [.bytes d, .int at_] led (fun v led' => ∃ t, v = .cst (.ref t) ∧ led' = (t, .tup [.int (d.getD at_.toNat 0).toNat, .int (at_ + 1)]) :: led) NoX := by
  refine fnS (kfn134 G) loc134 noc134 clo134 rfl fun c hg hn he => ?_
  subst hg
  have F := kfn134 G
  show WSs c _ _ ⟨[("data", .bytes d), ("at", .int at_)], [], [], led⟩ _
  refine ss_cons ?_
  apply s_ifp
  · apply bp_and3
    · apply bp_cmp (hm := rfl)
      refine e_loc (.tail _ (.head _)) rfl ?_
      refine e_int ?_
      refine c_ge ?_
      refine t_bool ⟨rfl, rfl⟩
    · intro hp
      walk_at "hp"
      apply bp_cmp (hm := rfl)
      refine e_loc (.tail _ (.head _)) rfl ?_
      refine e_call ?_ rfl rfl
      refine e_gl F he g134_len (has_len G) ?_
      refine ⟨_, rfl, keep_builtin, ?_⟩
      refine sw_cons ?_
      refine e_loc (.head _) rfl ?_
      refine sw_nil ?_
      refine call_lenB (by walk_at "sc") ?_
      refine c_lt ?_
      refine t_bool ⟨rfl, rfl⟩
    · intro hp hq
      walk_at "hp"
      apply bp_cmp (hm := rfl)
      refine e_sub ?_
      refine e_loc (.head _) rfl ?_
      refine e_loc (.tail _ (.head _)) rfl ?_
      refine so_bytes (by walk_at "sc") (by walk_at "sc") (by walk_at "sc") ?_
      refine e_int ?_
      refine c_lt ?_
      refine t_bool ⟨rfl, rfl⟩
  · intro hp
    refine ss_cons ?_
    refine s_ret ?_
    refine e_tuple rfl ?_
    refine sw_cons ?_
    refine e_sub ?_
    refine e_loc (.head _) rfl ?_
    refine e_loc (.tail _ (.head _)) rfl ?_
    refine so_bytes (by walk_at "sc") (by walk_at "sc") (by walk_at "sc") ?_
    refine sw_cons ?_
    refine e_bin ?_
    refine e_loc (.tail _ (.head _)) rfl ?_
    refine e_int ?_
    refine o_add ?_
    refine sw_nil ⟨Nat.le_of_ble_eq_true rfl, fun _ => ?_⟩
    exact ⟨_, .refl _, _, rfl, rfl⟩
  · intro hp
    exfalso
    simp only [Bool.and_eq_false_imp, decide_eq_true_eq, decide_eq_false_iff_not] at hp
    (walk_at "o")
theorem bitOr_nat (a b : Nat) : Builtin.bitOr (a : Int) (b : Int) = ((a ||| b : Nat) : Int) := by
  have n1 : ∀ k : Nat, Builtin.bitNot (k : Int) = -(k : Int) - 1 := fun k => by unfold Builtin.bitNot; (walk_at "o")
  have n2 : ∀ k : Nat, Builtin.bitNot (-(k : Int) - 1) = k := fun k => by unfold Builtin.bitNot; (walk_at "o")
  unfold Builtin.bitOr
  rw [n1, n1]
  unfold Builtin.bitAnd
  rw [show decide (0 ≤ -(a : Int) - 1) = false by simp; (walk_at "o"), show decide (0 ≤ -(b : Int) - 1) = false by simp; (walk_at "o")]
  dsimp only
  rw [n2, n2, Int.toNat_natCast, Int.toNat_natCast, n1, n2]
theorem or_add (a b k : Nat) (h : a < 2 ^ k) : a ||| (b * 2 ^ k) = a + b * 2 ^ k := by
  rw [Nat.or_comm, Nat.mul_comm, ← Nat.two_pow_add_eq_or_of_lt h]; (walk_at "o")
theorem oct_lt (x : UInt8) : x.toNat < 256 := x.toNat_lt
theorem bor4 (a b c d : Nat) (ha : a < 256) (hb : b < 256) (hc : c < 256) :
    Builtin.bitOr (Builtin.bitOr (Builtin.bitOr (a : Int) ((b : Int) * 2 ^ (8 : Int).toNat)) ((c : Int) * 2 ^ (16 : Int).toNat)) ((d : Int) * 2 ^ (24 : Int).toNat) = ((a + 256 * b + 65536 * c + 16777216 * d : Nat) : Int) := by
  have e1 : ((b : Int) * 2 ^ (8 : Int).toNat) = ((b * 2 ^ 8 : Nat) : Int) := by simp
  have e2 : ((c : Int) * 2 ^ (16 : Int).toNat) = ((c * 2 ^ 16 : Nat) : Int) := by simp
  have e3 : ((d : Int) * 2 ^ (24 : Int).toNat) = ((d * 2 ^ 24 : Nat) : Int) := by simp
  rw [e1, e2, e3, bitOr_nat, bitOr_nat, bitOr_nat, or_add a b 8 (by walk_at "o"), or_add _ c 16 (by walk_at "o"), or_add _ d 24 (by walk_at "o")]
  congr 1; (walk_at "o")
theorem u32_lt (d : List UInt8) (k : Nat) : u32 d k < 4294967296 := by
  unfold u32
  have h0 := oct_lt (d.getD k 0); have h1 := oct_lt (d.getD (k + 1) 0); have h2 := oct_lt (d.getD (k + 2) 0); have h3 := oct_lt (d.getD (k + 3) 0)
  (walk_at "o")
theorem put_fixed32_spec {g : Gx} (G : GH g) (n : Nat) (h1 : n < 4294967296) (led : Led) : FnS g 1 141 [.int n] led (fun v led' => v = .bytes (b32 n) ∧ led' = led) NoX := by
  refine fnS (kfn141 G) loc141 noc141 clo141 rfl fun c hg hn he => ?_
  subst hg
  have F := kfn141 G
  show WSs c _ _ ⟨[("n", .int n)], [], [], led⟩ _
  refine ss_cons ?_
  apply s_ifp
  · apply bp_or
    · apply bp_cmp (hm := rfl)
      refine e_loc (.head _) rfl ?_
      refine e_int ?_
      refine c_lt ?_
      refine t_bool ⟨rfl, rfl⟩
    · intro hp
      walk_at "hp"
      apply bp_cmp (hm := rfl)
      refine e_loc (.head _) rfl ?_
      refine e_gl F he g141_MAX_32 (has_MAX_32 G) ?_
      refine c_gt ?_
      refine t_bool ⟨rfl, rfl⟩
  · intro hp
    exfalso
    simp only [Bool.or_eq_true, decide_eq_true_eq] at hp
    (walk_at "o")
  · intro hp
    refine ss_nil ?_
    have e1 : Builtin.bitAnd (n : Int) 255 = ((n % 256 : Nat) : Int) := by rw [bitAnd_m8]; (walk_at "o")
    have e2 : Builtin.bitAnd ((n : Int) / 2 ^ (8 : Int).toNat) 255 = ((n / 256 % 256 : Nat) : Int) := by rw [bitAnd_m8, show (8 : Int).toNat = 8 from rfl]; (walk_at "o")
    have e3 : Builtin.bitAnd ((n : Int) / 2 ^ (16 : Int).toNat) 255 = ((n / 65536 % 256 : Nat) : Int) := by rw [bitAnd_m8, show (16 : Int).toNat = 16 from rfl]; (walk_at "o")
    have e4 : ((n : Int) / 2 ^ (24 : Int).toNat) = ((n / 16777216 : Nat) : Int) := by rw [show (24 : Int).toNat = 24 from rfl]; (walk_at "o")
    refine ss_cons ?_
    refine s_ret ?_
    refine e_call ?_ rfl rfl
    refine e_gl F he g141_bytes (has_bytes G) ?_
    refine ⟨_, rfl, keep_type, ?_⟩
    refine sw_cons ?_
    refine e_list rfl ?_
    refine sw_cons ?_
    refine e_bin ?_
    refine e_loc (.head _) rfl ?_
    refine e_int ?_
    refine o_and ?_
    refine sw_cons ?_
    refine e_bin ?_
    refine e_bin ?_
    refine e_loc (.head _) rfl ?_
    refine e_int ?_
    refine o_shr (by walk_at "sc") ?_
    refine e_int ?_
    refine o_and ?_
    refine sw_cons ?_
    refine e_bin ?_
    refine e_bin ?_
    refine e_loc (.head _) rfl ?_
    refine e_int ?_
    refine o_shr (by walk_at "sc") ?_
    refine e_int ?_
    refine o_and ?_
    refine sw_cons ?_
    refine e_bin ?_
    refine e_loc (.head _) rfl ?_
    refine e_int ?_
    refine o_shr (by walk_at "sc") ?_
    refine sw_nil ⟨Nat.le_of_ble_eq_true rfl, fun _ => ?_⟩
    refine sw_nil ?_
    refine call_bytesN [_, _, _, _] (.head _) rfl (by walk_at "octs") (Nat.le_of_ble_eq_true rfl) ?_
    refine ⟨led, .skip (.refl _), ?_, rfl⟩
    rw [e1, e2, e3, e4]
    rfl
theorem read_fixed32_spec {g : Gx} (G : GH g) (d : List UInt8) (k : Nat) (hz : d.length ≤ 16777216) (h1 : k + 4 ≤ d.length) (led : Led) : FnS g 1 148 [.bytes d, .int k] led (fun v led' => v = .int (u32 d k) ∧ led' = led) NoX := by
  refine fnS (kfn148 G) loc148 noc148 clo148 rfl fun c hg hn he => ?_
  subst hg
  have F := kfn148 G
  show WSs c _ _ ⟨[("data", .bytes d), ("at", .int k)], [], [], led⟩ _
  refine ss_cons ?_
  apply s_ifp
  · apply bp_or
    · apply bp_cmp (hm := rfl)
      refine e_loc (.tail _ (.head _)) rfl ?_
      refine e_int ?_
      refine c_lt ?_
      refine t_bool ⟨rfl, rfl⟩
    · intro hp
      walk_at "hp"
      apply bp_cmp (hm := rfl)
      refine e_bin ?_
      refine e_loc (.tail _ (.head _)) rfl ?_
      refine e_int ?_
      refine o_add ?_
      refine e_call ?_ rfl rfl
      refine e_gl F he g148_len (has_len G) ?_
      refine ⟨_, rfl, keep_builtin, ?_⟩
      refine sw_cons ?_
      refine e_loc (.head _) rfl ?_
      refine sw_nil ?_
      refine call_lenB (by walk_at "sc") ?_
      refine c_gt ?_
      refine t_bool ⟨rfl, rfl⟩
  · intro hp
    exfalso
    simp only [Bool.or_eq_true, decide_eq_true_eq] at hp
    (walk_at "o")
  · intro hp
    refine ss_nil ?_
    have o1 := oct_lt (d.getD ((k : Int) + 1).toNat 0)
    have o2 := oct_lt (d.getD ((k : Int) + 2).toNat 0)
    have o3 := oct_lt (d.getD ((k : Int) + 3).toNat 0)
    refine ss_cons ?_
    refine s_ret ?_
    refine e_bin ?_
    refine e_bin ?_
    refine e_bin ?_
    refine e_sub ?_
    refine e_loc (.head _) rfl ?_
    refine e_loc (.tail _ (.head _)) rfl ?_
    refine so_bytes (by walk_at "sc") (by walk_at "sc") (by walk_at "sc") ?_
    refine e_bin ?_
    refine e_sub ?_
    refine e_loc (.head _) rfl ?_
    refine e_bin ?_
    refine e_loc (.tail _ (.head _)) rfl ?_
    refine e_int ?_
    refine o_add ?_
    refine so_bytes (by walk_at "sc") (by walk_at "sc") (by walk_at "sc") ?_
    refine e_int ?_
    refine o_shl (by walk_at "sc") (by walk_at "sc") (by walk_at "sc") ?_
    refine o_or ?_
    refine e_bin ?_
    refine e_sub ?_
    refine e_loc (.head _) rfl ?_
    refine e_bin ?_
    refine e_loc (.tail _ (.head _)) rfl ?_
    refine e_int ?_
    refine o_add ?_
    refine so_bytes (by walk_at "sc") (by walk_at "sc") (by walk_at "sc") ?_
    refine e_int ?_
    refine o_shl (by walk_at "sc") (by walk_at "sc") (by walk_at "sc") ?_
    refine o_or ?_
    refine e_bin ?_
    refine e_sub ?_
    refine e_loc (.head _) rfl ?_
    refine e_bin ?_
    refine e_loc (.tail _ (.head _)) rfl ?_
    refine e_int ?_
    refine o_add ?_
    refine so_bytes (by walk_at "sc") (by walk_at "sc") (by walk_at "sc") ?_
    refine e_int ?_
    refine o_shl (by walk_at "sc") (by walk_at "sc") (by walk_at "sc") ?_
    refine o_or ?_
    refine ⟨led, .refl _, ?_, rfl⟩
    rw [bor4 _ _ _ _ (oct_lt _) (oct_lt _) (oct_lt _)]
    rfl
noncomputable def u64 (d : List UInt8) (k : Nat) : Nat := u32 d k + 4294967296 * u32 d (k + 4)
theorem read_fixed64_spec {g : Gx} (G : GH g) (d : List UInt8) (k : Nat) (hz : d.length ≤ 16777216) (h1 : k + 8 ≤ d.length) (led : Led) : FnS g 2 155 [.bytes d, .int k] led (fun v led' => v = .int (u64 d k) ∧ led' = led) NoX := by
  refine fnS (kfn155 G) loc155 noc155 clo155 rfl fun c hg hn he => ?_
  subst hg
  have F := kfn155 G
  show WSs c _ _ ⟨[("data", .bytes d), ("at", .int k)], [], [], led⟩ _
  refine ss_cons ?_
  apply s_ifp
  · apply bp_or
    · apply bp_cmp (hm := rfl)
      refine e_loc (.tail _ (.head _)) rfl ?_
      refine e_int ?_
      refine c_lt ?_
      refine t_bool ⟨rfl, rfl⟩
    · intro hp
      walk_at "hp"
      apply bp_cmp (hm := rfl)
      refine e_bin ?_
      refine e_loc (.tail _ (.head _)) rfl ?_
      refine e_int ?_
      refine o_add ?_
      refine e_call ?_ rfl rfl
      refine e_gl F he g155_len (has_len G) ?_
      refine ⟨_, rfl, keep_builtin, ?_⟩
      refine sw_cons ?_
      refine e_loc (.head _) rfl ?_
      refine sw_nil ?_
      refine call_lenB (by walk_at "sc") ?_
      refine c_gt ?_
      refine t_bool ⟨rfl, rfl⟩
  · intro hp
    exfalso
    simp only [Bool.or_eq_true, decide_eq_true_eq] at hp
    (walk_at "o")
  · intro hp
    refine ss_nil ?_
    refine ss_cons ?_
    refine s_ret ?_
    refine e_bin ?_
    refine e_call ?_ rfl rfl
    refine e_gl F he g155_read_fixed32 (has_read_fixed32 G) ?_
    refine ⟨_, rfl, kkeep148 G, ?_⟩
    refine sw_cons ?_
    refine e_loc (.head _) rfl ?_
    refine sw_cons ?_
    refine e_loc (.tail _ (.head _)) rfl ?_
    refine sw_nil ?_
    refine FnS.callP (read_fixed32_spec G d k hz (by walk_at "o") _) (by walk_at "o") ?_
    refine e_bin ?_
    refine e_call ?_ rfl rfl
    refine e_gl F he g155_read_fixed32 (has_read_fixed32 G) ?_
    refine ⟨_, rfl, kkeep148 G, ?_⟩
    refine sw_cons ?_
    refine e_loc (.head _) rfl ?_
    refine sw_cons ?_
    refine e_bin ?_
    refine e_loc (.tail _ (.head _)) rfl ?_
    refine e_int ?_
    refine o_add ?_
    refine sw_nil ?_
    refine FnS.callP (read_fixed32_spec G d (k + 4) hz (by walk_at "o") _) (by walk_at "o") ?_
    refine e_int ?_
    have u1 := u32_lt d (k + 4)
    refine o_shl (by walk_at "o") (by walk_at "o") (by walk_at "o") ?_
    refine o_or ?_
    refine ⟨led, .refl _, ?_, rfl⟩
    have e : ((u32 d (k + 4) : Int) * 2 ^ (32 : Int).toNat) = ((u32 d (k + 4) * 2 ^ 32 : Nat) : Int) := by simp
    rw [e, bitOr_nat, or_add _ _ 32 (u32_lt d k)]
    unfold u64
    rw [Nat.mul_comm 4294967296]
theorem cutB_of {b : List UInt8} {lo hi : Nat} (h1 : lo ≤ hi) (h2 : hi ≤ b.length) : cutB b (some (lo : Int)) (some (hi : Int)) = (b.drop lo).take (hi - lo) := by
  have e : ∀ n : Nat, n ≤ b.length → clipAt b.length (n : Int) = n := fun n hn => by unfold clipAt; rw [if_neg (by walk_at "o")]; (walk_at "o")
  unfold cutB
  simp only [Option.elim]
  rw [e lo (by walk_at "o"), e hi h2]
theorem cutB_to {b : List UInt8} {hi : Nat} (h2 : hi ≤ b.length) : cutB b none (some (hi : Int)) = b.take hi := by
  have e : ∀ n : Nat, n ≤ b.length → clipAt b.length (n : Int) = n := fun n hn => by unfold clipAt; rw [if_neg (by walk_at "o")]; (walk_at "o")
  unfold cutB
  simp only [Option.elim]
  rw [e hi h2]
  simp
theorem cutB_from {b : List UInt8} {lo : Nat} (h1 : lo ≤ b.length) : cutB b (some (lo : Int)) none = b.drop lo := by
  have e : ∀ n : Nat, n ≤ b.length → clipAt b.length (n : Int) = n := fun n hn => by unfold clipAt; rw [if_neg (by walk_at "o")]; (walk_at "o")
  unfold cutB
  simp only [Option.elim]
  rw [e lo h1]
  exact List.take_of_length_le (by simp)
theorem user_of_spec {g : Gx} (G : GH g) (ik : List UInt8) (hz : ik.length ≤ 16777216) (h1 : 8 ≤ ik.length) (led : Led) : FnS g 1 386 [.bytes ik] led (fun v led' => v = .bytes (ik.take (ik.length - 8)) ∧ led' = led) NoX := by
  refine fnS (kfn386 G) loc386 noc386 clo386 rfl fun c hg hn he => ?_
  subst hg
  have F := kfn386 G
  show WSs c _ _ ⟨[("ik", .bytes ik)], [], [], led⟩ _
  refine ss_cons ?_
  apply s_ifp
  · apply bp_cmp (hm := rfl)
    refine e_call ?_ rfl rfl
    refine e_gl F he g386_len (has_len G) ?_
    refine ⟨_, rfl, keep_builtin, ?_⟩
    refine sw_cons ?_
    refine e_loc (.head _) rfl ?_
    refine sw_nil ?_
    refine call_lenB (by walk_at "sc") ?_
    refine e_gl F he g386_TAG_LENGTH (has_TAG_LENGTH G) ?_
    refine c_lt ?_
    refine t_bool ⟨rfl, rfl⟩
  · intro hp
    exfalso
    simp only [decide_eq_true_eq] at hp
    (walk_at "o")
  · intro hp
    refine ss_nil ?_
    refine ss_cons ?_
    refine s_ret ?_
    refine e_call ?_ rfl rfl
    refine e_gl F he g386_bytes (has_bytes G) ?_
    refine ⟨_, rfl, keep_type, ?_⟩
    refine sw_cons ?_
    refine e_slice ?_
    refine e_loc (.head _) rfl ?_
    refine e_bin ?_
    refine e_call ?_ rfl rfl
    refine e_gl F he g386_len (has_len G) ?_
    refine ⟨_, rfl, keep_builtin, ?_⟩
    refine sw_cons ?_
    refine e_loc (.head _) rfl ?_
    refine sw_nil ?_
    refine call_lenB (by walk_at "sc") ?_
    refine e_gl F he g386_TAG_LENGTH (has_TAG_LENGTH G) ?_
    refine o_sub ?_
    refine ⟨_, rfl, ?_⟩
    refine sl_bytes (by walk_at "sc") ?_
    refine sw_nil ?_
    refine call_bytesB ?_
    refine ⟨_, .refl _, ?_, rfl⟩
    rw [show (ik.length : Int) - 8 = ((ik.length - 8 : Nat) : Int) by walk_at "o", cutB_to (by walk_at "o")]
theorem tag_of_spec {g : Gx} (G : GH g) (ik : List UInt8) (hz : ik.length ≤ 16777216) (h1 : 8 ≤ ik.length) (led : Led) : FnS g 3 393 [.bytes ik] led (fun v led' => v = .int (u64 ik (ik.length - 8)) ∧ led' = led) NoX := by
  refine fnS (kfn393 G) loc393 noc393 clo393 rfl fun c hg hn he => ?_
  subst hg
  have F := kfn393 G
  show WSs c _ _ ⟨[("ik", .bytes ik)], [], [], led⟩ _
  refine ss_cons ?_
  apply s_ifp
  · apply bp_cmp (hm := rfl)
    refine e_call ?_ rfl rfl
    refine e_gl F he g393_len (has_len G) ?_
    refine ⟨_, rfl, keep_builtin, ?_⟩
    refine sw_cons ?_
    refine e_loc (.head _) rfl ?_
    refine sw_nil ?_
    refine call_lenB (by walk_at "sc") ?_
    refine e_gl F he g393_TAG_LENGTH (has_TAG_LENGTH G) ?_
    refine c_lt ?_
    refine t_bool ⟨rfl, rfl⟩
  · intro hp
    exfalso
    simp only [decide_eq_true_eq] at hp
    (walk_at "o")
  · intro hp
    refine ss_nil ?_
    refine ss_cons ?_
    refine s_ret ?_
    refine e_call ?_ rfl rfl
    refine e_gl F he g393_read_fixed64 (has_read_fixed64 G) ?_
    refine ⟨_, rfl, (kkeep155 G), ?_⟩
    refine sw_cons ?_
    refine e_loc (.head _) rfl ?_
    refine sw_cons ?_
    refine e_bin ?_
    refine e_call ?_ rfl rfl
    refine e_gl F he g393_len (has_len G) ?_
    refine ⟨_, rfl, keep_builtin, ?_⟩
    refine sw_cons ?_
    refine e_loc (.head _) rfl ?_
    refine sw_nil ?_
    refine call_lenB (by walk_at "sc") ?_
    refine e_gl F he g393_TAG_LENGTH (has_TAG_LENGTH G) ?_
    refine o_sub ?_
    refine sw_nil ?_
    rw [show (ik.length : Int) - 8 = ((ik.length - 8 : Nat) : Int) by walk_at "o"]; refine FnS.callP (read_fixed64_spec G ik (ik.length - 8) hz (by walk_at "o") _) (by walk_at "o") ?_
    exact ⟨_, .refl _, rfl, rfl⟩
noncomputable def ordI : Ordering → Int
  | .lt => -1
  | .gt => 1
  | .eq => 0
theorem compare_spec {g : Gx} (G : GH g) (self a b : List UInt8) (so : V) (led : Led) : FnS g 1 407 [so, .bytes a, .bytes b] led (fun v led' => v = .int (ordI (ord a b)) ∧ led' = led) NoX := by
  refine fnS (kfn407 G) loc407 noc407 clo407 rfl fun c hg hn he => ?_
  subst hg
  have F := kfn407 G
  show WSs c _ _ ⟨[("self", so), ("a", .bytes a), ("b", .bytes b)], [], [], led⟩ _
  refine ss_cons ?_
  apply s_ifp
  · apply bp_cmp (hm := rfl)
    refine e_loc (.tail _ (.head _)) rfl ?_
    refine e_loc (.tail _ (.tail _ (.head _))) rfl ?_
    refine c_ltB ?_
    refine t_bool ⟨rfl, rfl⟩
  · intro hp
    refine ss_cons ?_
    refine s_ret ?_
    refine e_un ?_
    refine e_int ?_
    refine u_neg ?_
    exact ⟨_, .refl _, by rw [beq_iff_eq.mp hp]; rfl, rfl⟩
  · intro hp
    refine ss_nil ?_
    refine ss_cons ?_
    apply s_ifp
    · apply bp_cmp (hm := rfl)
      refine e_loc (.tail _ (.head _)) rfl ?_
      refine e_loc (.tail _ (.tail _ (.head _))) rfl ?_
      refine c_gtB ?_
      refine t_bool ⟨rfl, rfl⟩
    · intro hq
      refine ss_cons ?_
      refine s_ret ?_
      refine e_int ?_
      exact ⟨_, .refl _, by rw [beq_iff_eq.mp hq]; rfl, rfl⟩
    · intro hq
      refine ss_nil ?_
      refine ss_cons ?_
      refine s_ret ?_
      refine e_int ?_
      refine ⟨_, .refl _, ?_, rfl⟩
      cases e : ord a b
      · rw [e] at hp; cases hp
      · rfl
      · rw [e] at hq; cases hq
noncomputable def icmp (a b : List UInt8) : Int :=
  if ordI (ord (a.take (a.length - 8)) (b.take (b.length - 8))) ≠ 0 then ordI (ord (a.take (a.length - 8)) (b.take (b.length - 8)))
  else if u64 b (b.length - 8) < u64 a (a.length - 8) then -1 else if u64 a (a.length - 8) < u64 b (b.length - 8) then 1 else 0
theorem icompare_spec {g : Gx} (G : GH g) (a b : List UInt8) (ha : a.length ≤ 16777216) (hb : b.length ≤ 16777216) (ha8 : 8 ≤ a.length) (hb8 : 8 ≤ b.length) {so bo dx dy : Addr} {led : Led} (h1 : (so, Ob.inst 520 dx [("user_order", .cst (.ref bo))]) ∈ led) (h2 : (bo, Ob.inst 466 dy []) ∈ led) :
    FnS g 4 489 [.cst (.ref so), .bytes a, .bytes b] led (fun v led' => v = .int (icmp a b) ∧ led' = led) NoX := by
  refine fnS (kfn489 G) loc489 noc489 clo489 rfl fun c hg hn he => ?_
  subst hg
  have F := kfn489 G
  show WSs c _ _ ⟨[("self", .cst (.ref so)), ("a", .bytes a), ("b", .bytes b), ("c", .unset), ("tag_a", .unset), ("tag_b", .unset)], [], [], led⟩ _
  refine ss_cons ?_
  refine s_assign ?_ rfl
  refine e_meth ?_ rfl rfl (by decide) rfl
  refine e_attr ?_ rfl
  refine e_loc (.head _) rfl ?_
  refine a_inst (by walk_at "mem") (kcls520 G) (kfld520_user_order G) (by exact nd520) (by exact (.head _)) handed_ref ?_
  refine mo_inst (by walk_at "mem") (kcls466 G) (kmeth466_compare G) (by exact nm466_compare) ⟨kkeep407 G, ?_⟩
  refine sw_cons ?_
  refine e_call ?_ rfl rfl
  refine e_gl F he g489_user_of (has_user_of G) ?_
  refine ⟨_, rfl, (kkeep386 G), ?_⟩
  refine sw_cons ?_
  refine e_loc (.tail _ (.head _)) rfl ?_
  refine sw_nil ?_
  refine FnS.callP (user_of_spec G _ (by assumption) (by assumption) _) (by walk_at "o") ?_
  refine sw_cons ?_
  refine e_call ?_ rfl rfl
  refine e_gl F he g489_user_of (has_user_of G) ?_
  refine ⟨_, rfl, (kkeep386 G), ?_⟩
  refine sw_cons ?_
  refine e_loc (.tail _ (.tail _ (.head _))) rfl ?_
  refine sw_nil ?_
  refine FnS.callP (user_of_spec G _ (by assumption) (by assumption) _) (by walk_at "o") ?_
  refine sw_nil ?_
  refine FnS.callP (compare_spec G [] _ _ _ _) (by walk_at "o") ?_
  refine ⟨_, (.tail _ (.tail _ (.tail _ (.head _ _)))), ?_⟩
  refine ss_cons ?_
  apply s_ifp
  · apply bp_cmp (hm := rfl)
    refine e_loc (mem_ix 3 rfl) rfl ?_
    refine e_int ?_
    refine c_ne ?_
    refine t_bool ⟨rfl, rfl⟩
  · intro hp
    have hp := of_decide_eq_true hp
    refine ss_cons ?_
    refine s_ret ?_
    refine e_loc (mem_ix 3 rfl) rfl ?_
    exact ⟨_, .refl _, by unfold icmp; rw [if_pos hp], rfl⟩
  · intro hp
    have hp := of_decide_eq_false hp
    refine ss_nil ?_
    refine ss_cons ?_
    refine s_assign ?_ rfl
    refine e_call ?_ rfl rfl
    refine e_gl F he g489_tag_of (has_tag_of G) ?_
    refine ⟨_, rfl, (kkeep393 G), ?_⟩
    refine sw_cons ?_
    refine e_loc (.tail _ (.head _)) rfl ?_
    refine sw_nil ?_
    refine FnS.callP (tag_of_spec G _ (by assumption) (by assumption) _) (by walk_at "o") ?_
    refine ⟨_, (.tail _ (.tail _ (.tail _ (.tail _ (.head _ _))))), ?_⟩
    refine ss_cons ?_
    refine s_assign ?_ rfl
    refine e_call ?_ rfl rfl
    refine e_gl F he g489_tag_of (has_tag_of G) ?_
    refine ⟨_, rfl, (kkeep393 G), ?_⟩
    refine sw_cons ?_
    refine e_loc (.tail _ (.tail _ (.head _))) rfl ?_
    refine sw_nil ?_
    refine FnS.callP (tag_of_spec G _ (by assumption) (by assumption) _) (by walk_at "o") ?_
    refine ⟨_, (.tail _ (.tail _ (.tail _ (.tail _ (.tail _ (.head _ _)))))), ?_⟩
    refine ss_cons ?_
    apply s_ifp
    · apply bp_cmp (hm := rfl)
      refine e_loc (mem_ix 4 rfl) rfl ?_
      refine e_loc (mem_ix 5 rfl) rfl ?_
      refine c_gt ?_
      refine t_bool ⟨rfl, rfl⟩
    · intro hq
      have hq := of_decide_eq_true hq
      refine ss_cons ?_
      refine s_ret ?_
      refine e_un ?_
      refine e_int ?_
      refine u_neg ?_
      exact ⟨_, .refl _, by unfold icmp; rw [if_neg hp, if_pos (by walk_at "o")], rfl⟩
    · intro hq
      have hq := of_decide_eq_false hq
      refine ss_nil ?_
      refine ss_cons ?_
      apply s_ifp
      · apply bp_cmp (hm := rfl)
        refine e_loc (mem_ix 4 rfl) rfl ?_
        refine e_loc (mem_ix 5 rfl) rfl ?_
        refine c_lt ?_
        refine t_bool ⟨rfl, rfl⟩
      · intro hr
        have hr := of_decide_eq_true hr
        refine ss_cons ?_
        refine s_ret ?_
        refine e_int ?_
        exact ⟨_, .refl _, by unfold icmp; rw [if_neg hp, if_neg (by walk_at "o"), if_pos (by walk_at "o")], rfl⟩
      · intro hr
        have hr := of_decide_eq_false hr
        refine ss_nil ?_
        refine ss_cons ?_
        refine s_ret ?_
        refine e_int ?_
        exact ⟨_, .refl _, by unfold icmp; rw [if_neg hp, if_neg (by walk_at "o"), if_neg (by walk_at "o")], rfl⟩
noncomputable def kcmp (internal : Bool) (a b : List UInt8) : Int := if internal then icmp a b else ordI (ord a b)
noncomputable def KeyOk (internal : Bool) (a : List UInt8) : Prop := a.length ≤ 100 ∧ (internal = true → 8 ≤ a.length)
theorem kcmp_true (a b : List UInt8) : kcmp true a b = icmp a b := if_pos rfl
theorem kcmp_false (a b : List UInt8) : kcmp false a b = ordI (ord a b) := if_neg Bool.false_ne_true
theorem ordIn_true {o : Addr} {l : Led} (h : OrdIn o true l) : ∃ bo dx dy, (o, Ob.inst 520 dx [("user_order", .cst (.ref bo))]) ∈ l ∧ (bo, Ob.inst 466 dy []) ∈ l := by
  unfold OrdIn at h; rw [if_pos rfl] at h; exact h
theorem ordIn_false {o : Addr} {l : Led} (h : OrdIn o false l) : ∃ dx, (o, Ob.inst 466 dx []) ∈ l := by
  unfold OrdIn at h; rw [if_neg Bool.false_ne_true] at h; exact h
section
variable {c : Fx} {E : Value → Shared → Prop} {σ : St}
noncomputable def Cmps (c : Fx) (E : Value → Shared → Prop) (o : Addr) (internal : Bool) (f : Addr) : Prop :=
  ∀ (σ' : St) (a b : List UInt8) (Q' : V → St → Prop), OrdIn o internal σ'.led → KeyOk internal a → KeyOk internal b → Q' (.int (kcmp internal a b)) σ' → CallO c E (.ref f) [.cst (.ref o), .bytes a, .bytes b] σ' Q'
theorem cmps_true (G : GH c.g) (hn : 4 ≤ c.n) (o : Addr) : Cmps c E o true 489 := fun σ' a b Q' hO ha hb hq => by
  obtain ⟨bo', dx', dy', h1', h2'⟩ := ordIn_true hO
  have la : a.length ≤ 16777216 := Nat.le_trans ha.1 (Nat.le_of_ble_eq_true rfl)
  have lb : b.length ≤ 16777216 := Nat.le_trans hb.1 (Nat.le_of_ble_eq_true rfl)
  rw [kcmp_true] at hq
  exact FnS.callP (icompare_spec G a b la lb (ha.2 rfl) (hb.2 rfl) h1' h2') hn hq
theorem cmps_false (G : GH c.g) (hn : 4 ≤ c.n) (o : Addr) : Cmps c E o false 407 := fun σ' a b Q' hO ha hb hq => by
  rw [kcmp_false] at hq
  exact FnS.callP (compare_spec G [] a b _ _) (Nat.le_trans (Nat.le_of_ble_eq_true rfl) hn) hq
theorem mo_order (G : GH c.g) (hn : 4 ≤ c.n) {o : Addr} {internal : Bool} {Q : Value → List V → Prop} (hO : OrdIn o internal σ.led)
    (q : ∀ f, KeepOk c.g.K (.ref f) → Cmps c E o internal f → Q (.ref f) [.cst (.ref o)]) : MO c E (.cst (.ref o)) "compare" σ Q := by
  cases internal with
  | true =>
    obtain ⟨bo, dx, dy, h1, h2⟩ := ordIn_true hO
    exact mo_inst h1 (kcls520 G) (kmeth520_compare G) nm520_compare (q _ (kkeep489 G) (cmps_true G hn o))
  | false =>
    obtain ⟨dx, h1⟩ := ordIn_false hO
    exact mo_inst h1 (kcls466 G) (kmeth466_compare G) nm466_compare (q _ (kkeep407 G) (cmps_false G hn o))
end
noncomputable def bldOb (dx order buf rs : Addr) (interval since entries : Int) (fin : Bool) (last : List UInt8) : Ob :=
  .inst 214 dx [("interval", .int interval), ("order", .cst (.ref order)), ("buffer", .cst (.ref buf)), ("restarts", .cst (.ref rs)), ("since", .int since), ("entries", .int entries), ("finished", .bool fin), ("last_key", .bytes last)]
theorem builder_init_spec {g : Gx} (G : GH g) (interval : Int) (h1 : 1 ≤ interval) (x dx order : Addr) (led : Led) :
    FnS g 1 176 [.cst (.ref x), .int interval, .cst (.ref order)] ((x, .inst 214 dx []) :: led) (fun v led' => v = .none ∧ ∃ buf rs, led' = (rs, .list [.int 0]) :: (buf, .ba []) :: (x, bldOb dx order buf rs interval 0 0 false []) :: led) NoX := by
  refine fnS (kfn176 G) loc176 noc176 clo176 rfl fun c hg hn he => ?_
  subst hg
  have F := kfn176 G
  show WSs c _ _ ⟨[("self", .cst (.ref x)), ("interval", .int interval), ("order", .cst (.ref order))], [], [], _⟩ _
  refine ss_cons ?_
  apply s_ifp
  · apply bp_cmp (hm := rfl)
    refine e_loc (.tail _ (.head _)) rfl ?_
    refine e_int ?_
    refine c_lt ?_
    refine t_bool ⟨rfl, rfl⟩
  · intro hp
    exfalso
    simp only [decide_eq_true_eq] at hp
    (walk_at "o")
  · intro hp
    refine ss_nil ?_
    refine ss_cons ?_
    refine s_setattr ?_ rfl
    refine e_loc (.tail _ (.head _)) rfl ?_
    refine e_loc (.head _) rfl ?_
    refine p_new (kcls214 G) (kfld214_interval G) (by walk_at "upd") (by walk_at "len") (by exact new214_0) ?_
    refine ss_cons ?_
    refine s_setattr ?_ rfl
    refine e_loc (.tail _ (.tail _ (.head _))) rfl ?_
    refine e_loc (.head _) rfl ?_
    refine p_new (kcls214 G) (kfld214_order G) (by walk_at "upd") (by walk_at "len") (by exact new214_1) ?_
    refine ss_cons ?_
    refine s_setattr ?_ rfl
    refine e_call ?_ rfl rfl
    refine e_gl F he g176_bytearray (has_bytearray G) ?_
    refine ⟨_, rfl, keep_type, ?_⟩
    refine sw_nil ?_
    refine call_ba0 fun _ => ?_
    refine e_loc (.head _) rfl ?_
    refine p_new (kcls214 G) (kfld214_buffer G) (by walk_at "upd") (by walk_at "len") (by exact new214_2) ?_
    refine ss_cons ?_
    refine s_setattr ?_ rfl
    refine e_list rfl ?_
    refine sw_cons ?_
    refine e_int ?_
    refine sw_nil ⟨Nat.le_of_ble_eq_true rfl, fun _ => ?_⟩
    refine e_loc (.head _) rfl ?_
    refine p_new (kcls214 G) (kfld214_restarts G) (by walk_at "upd") (by walk_at "len") (by exact new214_3) ?_
    refine ss_cons ?_
    refine s_setattr ?_ rfl
    refine e_int ?_
    refine e_loc (.head _) rfl ?_
    refine p_new (kcls214 G) (kfld214_since G) (by walk_at "upd") (by walk_at "len") (by exact new214_4) ?_
    refine ss_cons ?_
    refine s_setattr ?_ rfl
    refine e_int ?_
    refine e_loc (.head _) rfl ?_
    refine p_new (kcls214 G) (kfld214_entries G) (by walk_at "upd") (by walk_at "len") (by exact new214_5) ?_
    refine ss_cons ?_
    refine s_setattr ?_ rfl
    refine e_bool ?_
    refine e_loc (.head _) rfl ?_
    refine p_new (kcls214 G) (kfld214_finished G) (by walk_at "upd") (by walk_at "len") (by exact new214_6) ?_
    refine ss_cons ?_
    refine s_setattr ?_ rfl
    refine e_bytes ?_
    refine e_loc (.head _) rfl ?_
    refine p_new (kcls214 G) (kfld214_last_key G) (by walk_at "upd") (by walk_at "len") (by exact new214_7) ?_
    refine ss_nil ?_
    exact ⟨_, .refl _, rfl, _, _, rfl⟩
theorem estimate_spec {g : Gx} (G : GH g) {x dx order buf rs : Addr} {interval since entries : Int} {fin : Bool} {last b : List UInt8} {places : List V} {led : Led} (h1 : (x, bldOb dx order buf rs interval since entries fin last) ∈ led)
    (h2 : (buf, Ob.ba b) ∈ led) (h3 : (rs, Ob.list places) ∈ led) (hb : b.length ≤ 16777216) (hp : places.length ≤ 16777216) :
    FnS g 1 197 [.cst (.ref x)] led (fun v led' => v = .int (b.length + 4 * places.length + 4) ∧ led' = led) NoX := by
  refine fnS (kfn197 G) loc197 noc197 clo197 rfl fun c hg hn he => ?_
  subst hg
  have F := kfn197 G
  unfold bldOb at h1
  show WSs c _ _ ⟨[("self", .cst (.ref x))], [], [], _⟩ _
  refine ss_cons ?_
  refine s_ret ?_
  refine e_bin ?_
  refine e_bin ?_
  refine e_call ?_ rfl rfl
  refine e_gl F he g197_len (has_len G) ?_
  refine ⟨_, rfl, keep_builtin, ?_⟩
  refine sw_cons ?_
  refine e_attr ?_ rfl
  refine e_loc (.head _) rfl ?_
  refine a_inst (by walk_at "mem") (kcls214 G) (kfld214_buffer G) (by exact nd214) (by exact (.tail _ (.tail _ (.head _)))) handed_ref ?_
  refine sw_nil ?_
  refine call_lenA (by walk_at "mem") (by walk_at "sc") ?_
  refine e_bin ?_
  refine e_int ?_
  refine e_call ?_ rfl rfl
  refine e_gl F he g197_len (has_len G) ?_
  refine ⟨_, rfl, keep_builtin, ?_⟩
  refine sw_cons ?_
  refine e_attr ?_ rfl
  refine e_loc (.head _) rfl ?_
  refine a_inst (by walk_at "mem") (kcls214 G) (kfld214_restarts G) (by exact nd214) (by exact (mem_ix 3 rfl)) handed_ref ?_
  refine sw_nil ?_
  refine call_lenL (by walk_at "mem") (by walk_at "sc") ?_
  refine o_mul (by walk_at "sc") ?_
  refine o_add ?_
  refine e_int ?_
  refine o_add ?_
  exact ⟨_, .refl _, rfl, rfl⟩
noncomputable def added (b : List UInt8) (sh : Nat) (key value : List UInt8) : List UInt8 := b ++ toB [(sh : Int)] ++ toB [(key.length : Int) - sh] ++ toB [(value.length : Int)] ++ key.drop sh ++ value
theorem add_spec {g : Gx} (G : GH g) {x dx order buf rs : Addr} {interval since entries : Int} {last b key value : List UInt8} {places : List V} {rest : Led} {internal : Bool} (hO : OrdIn order internal rest)
    (hk : KeyOk internal key) (hl : 0 < entries → KeyOk internal last ∧ 0 < kcmp internal key last) (hll : last.length ≤ 100) (hv : value.length ≤ 100) (hb : b.length ≤ 1000000) (hp : places.length ≤ 1000000) :
    FnS g 5 204 [.cst (.ref x), .bytes key, .bytes value] ((rs, .list places) :: (buf, .ba b) :: (x, bldOb dx order buf rs interval since entries false last) :: rest)
      (fun v led' => v = .none ∧ led' = (rs, .list (if since < interval then places else places ++ [.int b.length])) :: (buf, .ba (added b (if since < interval then lcp last key else 0) key value)) ::
        (x, bldOb dx order buf rs interval ((if since < interval then since else 0) + 1) (entries + 1) false key) :: rest) NoX := by
  refine fnS (kfn204 G) loc204 noc204 clo204 rfl fun c hg hn he => ?_
  subst hg
  have F := kfn204 G
  have hkl := hk.1
  unfold bldOb
  show WSs c _ _ ⟨[("self", .cst (.ref x)), ("key", .bytes key), ("value", .bytes value), ("shared", .unset)], [], [], _⟩ _
  refine ss_cons ?_
  apply s_ifp
  · apply bp_plain (hp := rfl)
    refine e_attr ?_ rfl
    refine e_loc (.head _) rfl ?_
    refine a_inst (by walk_at "mem") (kcls214 G) (kfld214_finished G) (by exact nd214) (by exact (mem_ix 6 rfl)) handed_bool ?_
    refine t_bool ⟨rfl, rfl⟩
  · intro hp; exact absurd hp Bool.false_ne_true
  · intro _
    refine ss_nil ?_
    refine ss_cons ?_
    apply s_ifp
    · apply bp_and
      · apply bp_cmp (hm := rfl)
        refine e_attr ?_ rfl
        refine e_loc (.head _) rfl ?_
        refine a_inst (by walk_at "mem") (kcls214 G) (kfld214_entries G) (by exact nd214) (by exact (mem_ix 5 rfl)) handed_int ?_
        refine e_int ?_
        refine c_gt ?_
        refine t_bool ⟨rfl, rfl⟩
      · intro hp
        walk_at "hp"
        apply bp_cmp (hm := rfl)
        refine e_meth ?_ rfl rfl (by decide) rfl
        refine e_attr ?_ rfl
        refine e_loc (.head _) rfl ?_
        refine a_inst (by walk_at "mem") (kcls214 G) (kfld214_order G) (by exact nd214) (by exact (.tail _ (.head _))) handed_ref ?_
        refine mo_order G (by walk_at "o") (by walk_at "ord") fun f hkf hc => ⟨hkf, ?_⟩
        refine sw_cons ?_
        refine e_loc (.tail _ (.head _)) rfl ?_
        refine sw_cons ?_
        refine e_attr ?_ rfl
        refine e_loc (.head _) rfl ?_
        refine a_inst (by walk_at "mem") (kcls214 G) (kfld214_last_key G) (by exact nd214) (by exact (mem_ix 7 rfl)) handed_bytes ?_
        refine sw_nil ?_
        refine hc _ _ _ _ (by walk_at "ord") hk (hl (by walk_at "o")).1 ?_
        refine e_int ?_
        refine c_le ?_
        refine t_bool ⟨rfl, rfl⟩
    · intro hp
      exfalso
      simp only [Bool.and_eq_true, decide_eq_true_eq] at hp
      have := (hl hp.1).2
      (walk_at "o")
    · intro _
      refine ss_nil ?_
      refine ss_cons ?_
      refine s_assign ?_ rfl
      refine e_int ?_
      refine ⟨_, (.tail _ (.tail _ (.tail _ (.head _ _)))), ?_⟩
      refine ss_cut (fun σ' => σ' = ⟨[("self", .cst (.ref x)), ("key", .bytes key), ("value", .bytes value), ("shared", .int (if since < interval then lcp last key else 0 : Nat))], [], [],
        (rs, .list (if since < interval then places else places ++ [.int b.length])) :: (buf, .ba b) :: (x, bldOb dx order buf rs interval (if since < interval then since else 0) entries false last) :: rest⟩) ?_ ?_
      · apply s_ifp
        · apply bp_cmp (hm := rfl)
          refine e_attr ?_ rfl
          refine e_loc (.head _) rfl ?_
          refine a_inst (by walk_at "mem") (kcls214 G) (kfld214_since G) (by exact nd214) (by exact (mem_ix 4 rfl)) handed_int ?_
          refine e_attr ?_ rfl
          refine e_loc (.head _) rfl ?_
          refine a_inst (by walk_at "mem") (kcls214 G) (kfld214_interval G) (by exact nd214) (by exact (.head _)) handed_int ?_
          refine c_lt ?_
          refine t_bool ⟨rfl, rfl⟩
        · intro hp
          have hp := of_decide_eq_true hp
          refine ss_cons ?_
          refine s_assign ?_ rfl
          refine e_call ?_ rfl rfl
          refine e_gl F he g204_shared_prefix (has_shared_prefix G) ?_
          refine ⟨_, rfl, (kkeep162 G), ?_⟩
          refine sw_cons ?_
          refine e_attr ?_ rfl
          refine e_loc (.head _) rfl ?_
          refine a_inst (by walk_at "mem") (kcls214 G) (kfld214_last_key G) (by exact nd214) (by exact (mem_ix 7 rfl)) handed_bytes ?_
          refine sw_cons ?_
          refine e_loc (.tail _ (.head _)) rfl ?_
          refine sw_nil ?_
          refine FnS.callP (shared_prefix_spec G _ _ (by walk_at "o") (by walk_at "o") _) (by walk_at "o") ?_
          refine ⟨_, (.tail _ (.tail _ (.tail _ (.head _ _)))), ?_⟩
          refine ss_nil ?_
          exact ⟨rfl, by rw [if_pos hp, if_pos hp, if_pos hp]; rfl⟩
        · intro hp
          have hp := of_decide_eq_false hp
          refine ss_cons ?_
          refine s_exprn ?_ rfl
          refine e_meth ?_ rfl rfl (by decide) rfl
          refine e_attr ?_ rfl
          refine e_loc (.head _) rfl ?_
          refine a_inst (by walk_at "mem") (kcls214 G) (kfld214_restarts G) (by exact nd214) (by exact (mem_ix 3 rfl)) handed_ref ?_
          refine mo_append (by walk_at "mem") ⟨keep_builtin, ?_⟩
          refine sw_cons ?_
          refine e_call ?_ rfl rfl
          refine e_gl F he g204_len (has_len G) ?_
          refine ⟨_, rfl, keep_builtin, ?_⟩
          refine sw_cons ?_
          refine e_attr ?_ rfl
          refine e_loc (.head _) rfl ?_
          refine a_inst (by walk_at "mem") (kcls214 G) (kfld214_buffer G) (by exact nd214) (by exact (.tail _ (.tail _ (.head _)))) handed_ref ?_
          refine sw_nil ?_
          refine call_lenA (by walk_at "mem") (by walk_at "sc") ?_
          refine sw_nil ?_
          refine call_append (by walk_at "upd") (by walk_at "sc") ?_
          refine ⟨trivial, ?_⟩
          refine ss_cons ?_
          refine s_setattr ?_ rfl
          refine e_int ?_
          refine e_loc (.head _) rfl ?_
          refine p_set (kcls214 G) (kfld214_since G) (by walk_at "upd") (by walk_at "len") (by exact nd214) (by exact (.tail _ (.tail _ (.tail _ (.tail _ (.head _ _)))))) ?_
          refine ss_nil ?_
          exact ⟨rfl, by rw [if_neg hp, if_neg hp, if_neg hp]; rfl⟩
      · rintro _ rfl
        have hlc := lcp_le last key
        generalize hsh : (if since < interval then lcp last key else 0) = sh
        have hsh1 : sh ≤ key.length := by
          rw [← hsh]; split <;> (walk_at "o")
        generalize hpl : (if since < interval then places else places ++ [V.int b.length]) = pl
        generalize hsi : (if since < interval then since else 0) = si
        unfold bldOb
        refine ss_cons ?_
        refine s_exprn ?_ rfl
        refine e_meth ?_ rfl rfl (by decide) rfl
        refine e_attr ?_ rfl
        refine e_loc (.head _) rfl ?_
        refine a_inst (by walk_at "mem") (kcls214 G) (kfld214_buffer G) (by exact nd214) (by exact (.tail _ (.tail _ (.head _)))) handed_ref ?_
        refine mo_extend (by walk_at "mem") ⟨keep_builtin, ?_⟩
        refine sw_cons ?_
        refine e_call ?_ rfl rfl
        refine e_gl F he g204_put_varint32 (has_put_varint32 G) ?_
        refine ⟨_, rfl, (kkeep127 G), ?_⟩
        refine sw_cons ?_
        refine e_loc (mem_ix 3 rfl) rfl ?_
        refine sw_nil ?_
        refine FnS.callP (put_varint32_spec G _ (by walk_at "o") (by walk_at "o") _) (by walk_at "o") ?_
        refine sw_nil ?_
        refine call_extend (by walk_at "upd") (by walk_at "sc") ?_
        refine ⟨trivial, ?_⟩
        refine ss_cons ?_
        refine s_exprn ?_ rfl
        refine e_meth ?_ rfl rfl (by decide) rfl
        refine e_attr ?_ rfl
        refine e_loc (.head _) rfl ?_
        refine a_inst (by walk_at "mem") (kcls214 G) (kfld214_buffer G) (by exact nd214) (by exact (.tail _ (.tail _ (.head _)))) handed_ref ?_
        refine mo_extend (by walk_at "mem") ⟨keep_builtin, ?_⟩
        refine sw_cons ?_
        refine e_call ?_ rfl rfl
        refine e_gl F he g204_put_varint32 (has_put_varint32 G) ?_
        refine ⟨_, rfl, (kkeep127 G), ?_⟩
        refine sw_cons ?_
        refine e_bin ?_
        refine e_call ?_ rfl rfl
        refine e_gl F he g204_len (has_len G) ?_
        refine ⟨_, rfl, keep_builtin, ?_⟩
        refine sw_cons ?_
        refine e_loc (.tail _ (.head _)) rfl ?_
        refine sw_nil ?_
        refine call_lenB (by walk_at "sc") ?_
        refine e_loc (mem_ix 3 rfl) rfl ?_
        refine o_sub ?_
        refine sw_nil ?_
        refine FnS.callP (put_varint32_spec G _ (by walk_at "o") (by walk_at "o") _) (by walk_at "o") ?_
        refine sw_nil ?_
        refine call_extend (by walk_at "upd") (by walk_at "sc") ?_
        refine ⟨trivial, ?_⟩
        refine ss_cons ?_
        refine s_exprn ?_ rfl
        refine e_meth ?_ rfl rfl (by decide) rfl
        refine e_attr ?_ rfl
        refine e_loc (.head _) rfl ?_
        refine a_inst (by walk_at "mem") (kcls214 G) (kfld214_buffer G) (by exact nd214) (by exact (.tail _ (.tail _ (.head _)))) handed_ref ?_
        refine mo_extend (by walk_at "mem") ⟨keep_builtin, ?_⟩
        refine sw_cons ?_
        refine e_call ?_ rfl rfl
        refine e_gl F he g204_put_varint32 (has_put_varint32 G) ?_
        refine ⟨_, rfl, (kkeep127 G), ?_⟩
        refine sw_cons ?_
        refine e_call ?_ rfl rfl
        refine e_gl F he g204_len (has_len G) ?_
        refine ⟨_, rfl, keep_builtin, ?_⟩
        refine sw_cons ?_
        refine e_loc (.tail _ (.tail _ (.head _))) rfl ?_
        refine sw_nil ?_
        refine call_lenB (by walk_at "sc") ?_
        refine sw_nil ?_
        refine FnS.callP (put_varint32_spec G _ (by walk_at "o") (by walk_at "o") _) (by walk_at "o") ?_
        refine sw_nil ?_
        refine call_extend (by walk_at "upd") (by walk_at "sc") ?_
        refine ⟨trivial, ?_⟩
        refine ss_cons ?_
        refine s_exprn ?_ rfl
        refine e_meth ?_ rfl rfl (by decide) rfl
        refine e_attr ?_ rfl
        refine e_loc (.head _) rfl ?_
        refine a_inst (by walk_at "mem") (kcls214 G) (kfld214_buffer G) (by exact nd214) (by exact (.tail _ (.tail _ (.head _)))) handed_ref ?_
        refine mo_extend (by walk_at "mem") ⟨keep_builtin, ?_⟩
        refine sw_cons ?_
        refine e_slice ?_
        refine e_loc (.tail _ (.head _)) rfl ?_
        refine e_loc (mem_ix 3 rfl) rfl ?_
        refine ⟨_, rfl, ?_⟩
        refine sl_bytes (by walk_at "sc") ?_
        rw [cutB_from hsh1]
        refine sw_nil ?_
        refine call_extend (by walk_at "upd") (by walk_at "sc") ?_
        refine ⟨trivial, ?_⟩
        refine ss_cons ?_
        refine s_exprn ?_ rfl
        refine e_meth ?_ rfl rfl (by decide) rfl
        refine e_attr ?_ rfl
        refine e_loc (.head _) rfl ?_
        refine a_inst (by walk_at "mem") (kcls214 G) (kfld214_buffer G) (by exact nd214) (by exact (.tail _ (.tail _ (.head _)))) handed_ref ?_
        refine mo_extend (by walk_at "mem") ⟨keep_builtin, ?_⟩
        refine sw_cons ?_
        refine e_loc (.tail _ (.tail _ (.head _))) rfl ?_
        refine sw_nil ?_
        refine call_extend (by walk_at "upd") (by walk_at "sc") ?_
        refine ⟨trivial, ?_⟩
        refine ss_cons ?_
        refine s_augattr ?_
        refine e_loc (.head _) rfl ?_
        refine a_inst (by walk_at "mem") (kcls214 G) (kfld214_since G) (by exact nd214) (by exact (mem_ix 4 rfl)) handed_int ?_
        refine e_int ?_
        refine io_add ?_
        refine p_set (kcls214 G) (kfld214_since G) (by walk_at "upd") (by walk_at "len") (by exact nd214) (by exact (.tail _ (.tail _ (.tail _ (.tail _ (.head _ _)))))) ?_
        refine ss_cons ?_
        refine s_augattr ?_
        refine e_loc (.head _) rfl ?_
        refine a_inst (by walk_at "mem") (kcls214 G) (kfld214_entries G) (by exact nd214) (by exact (mem_ix 5 rfl)) handed_int ?_
        refine e_int ?_
        refine io_add ?_
        refine p_set (kcls214 G) (kfld214_entries G) (by walk_at "upd") (by walk_at "len") (by exact nd214) (by exact (.tail _ (.tail _ (.tail _ (.tail _ (.tail _ (.head _ _))))))) ?_
        refine ss_cons ?_
        refine s_setattr ?_ rfl
        refine e_call ?_ rfl rfl
        refine e_gl F he g204_bytes (has_bytes G) ?_
        refine ⟨_, rfl, keep_type, ?_⟩
        refine sw_cons ?_
        refine e_loc (.tail _ (.head _)) rfl ?_
        refine sw_nil ?_
        refine call_bytesB ?_
        refine e_loc (.head _) rfl ?_
        refine p_set (kcls214 G) (kfld214_last_key G) (by walk_at "upd") (by walk_at "len") (by exact nd214) (by exact (.tail _ (.tail _ (.tail _ (.tail _ (.tail _ (.tail _ (.tail _ (.head _ _))))))))) ?_
        refine ss_nil ?_
        exact ⟨_, .refl _, rfl, rfl⟩
theorem natsV_getD {ns : List Nat} {k : Nat} (h : k < ns.length) : (natsV ns).getD k .none = .int (ns.getD k 0 : Nat) := by
  simp [natsV, List.getD_eq_getElem?_getD, List.getElem?_eq_getElem h]
noncomputable def tabl (ns : List Nat) : List UInt8 := ns.flatMap b32
theorem tabl_length (ns : List Nat) : (tabl ns).length = 4 * ns.length := by
  induction ns with
  | nil => rfl
  | cons n ns ih => simp [tabl] at ih ⊢; rw [ih, b32_length]; (walk_at "o")
theorem tabl_take {ns : List Nat} {k : Nat} (h : k < ns.length) : tabl (ns.take (k + 1)) = tabl (ns.take k) ++ b32 (ns.getD k 0) := by
  rw [List.take_add_one, List.getElem?_eq_getElem h, List.getD_eq_getElem?_getD, List.getElem?_eq_getElem h]
  unfold tabl
  rw [List.flatMap_append]
  simp only [Option.toList, List.flatMap_cons, List.flatMap_nil, List.append_nil, Option.getD]
theorem finish_spec {g : Gx} (G : GH g) {x dx order buf rs : Addr} {interval since entries : Int} {last b : List UInt8} {places : List Nat} {rest : Led} (hb : b.length ≤ 1000000) (hp : places.length ≤ 1000000) (hpl : ∀ p ∈ places, p < 4294967296) :
    FnS g 2 211 [.cst (.ref x)] ((rs, .list (natsV places)) :: (buf, .ba b) :: (x, bldOb dx order buf rs interval since entries false last) :: rest)
      (fun v led' => v = .bytes (b ++ tabl places ++ b32 places.length) ∧ led' = (rs, .list (natsV places)) :: (buf, .ba b) :: (x, bldOb dx order buf rs interval since entries true last) :: rest) NoX := by
  refine fnS (kfn211 G) loc211 noc211 clo211 rfl fun c hg hn he => ?_
  subst hg
  have F := kfn211 G
  unfold bldOb
  show WSs c _ _ ⟨[("self", .cst (.ref x)), ("out", .unset), ("place", .unset)], [], [], _⟩ _
  refine ss_cons ?_
  apply s_ifp
  · apply bp_plain (hp := rfl)
    refine e_attr ?_ rfl
    refine e_loc (.head _) rfl ?_
    refine a_inst (by walk_at "mem") (kcls214 G) (kfld214_finished G) (by exact nd214) (by exact (mem_ix 6 rfl)) handed_bool ?_
    refine t_bool ⟨rfl, rfl⟩
  · intro hp; exact absurd hp Bool.false_ne_true
  · intro _
    refine ss_nil ?_
    refine ss_cons ?_
    refine s_setattr ?_ rfl
    refine e_bool ?_
    refine e_loc (.head _) rfl ?_
    refine p_set (kcls214 G) (kfld214_finished G) (by walk_at "upd") (by walk_at "len") (by exact nd214) (by exact (.tail _ (.tail _ (.tail _ (.tail _ (.tail _ (.tail _ (.head _ _)))))))) ?_
    refine ss_cons ?_
    refine s_assign ?_ rfl
    refine e_call ?_ rfl rfl
    refine e_gl F he g211_bytearray (has_bytearray G) ?_
    refine ⟨_, rfl, keep_type, ?_⟩
    refine sw_cons ?_
    refine e_attr ?_ rfl
    refine e_loc (.head _) rfl ?_
    refine a_inst (by walk_at "mem") (kcls214 G) (kfld214_buffer G) (by exact nd214) (by exact (.tail _ (.tail _ (.head _)))) handed_ref ?_
    refine sw_nil ?_
    refine call_ba1 (by walk_at "mem") (by walk_at "sc") fun _ => ?_
    refine ⟨_, (.tail _ (.head _ _)), ?_⟩
    dsimp only
    rename_i o
    refine ss_cut (fun σ' => ∃ pv, σ' = ⟨[("self", .cst (.ref x)), ("out", .cst (.ref o)), ("place", pv)], [], [], (o, .ba (b ++ tabl places)) :: (rs, .list (natsV places)) :: (buf, .ba b) :: (x, bldOb dx order buf rs interval since entries true last) :: rest⟩) ?_ ?_
    · refine s_for_list (fun k σ' => ∃ pv, σ' = ⟨[("self", .cst (.ref x)), ("out", .cst (.ref o)), ("place", pv)], [], [], (o, .ba (b ++ tabl (places.take k))) :: (rs, .list (natsV places)) :: (buf, .ba b) :: (x, bldOb dx order buf rs interval since entries true last) :: rest⟩) (natsV places) rs (fun _ => rfl) ?_ ?_ ?_ ?_
      · refine e_attr ?_ rfl
        refine e_loc (.head _) rfl ?_
        refine a_inst (by walk_at "mem") (kcls214 G) (kfld214_restarts G) (by exact nd214) (by exact (mem_ix 3 rfl)) handed_ref ?_
        exact ⟨rfl, .tail _ (.head _), .unset, by simp only [List.take_zero, tabl, List.flatMap_nil, List.append_nil]; rfl⟩
      · rintro k _ ⟨pv, rfl⟩
        exact .tail _ (.head _)
      · rintro k _ it hk ⟨pv, rfl⟩
        rw [natsV_length] at hk
        have hlt := hpl (places.getD k 0) (by rw [List.getD_eq_getElem?_getD, List.getElem?_eq_getElem hk]; exact List.getElem_mem hk)
        have hl4 := tabl_length (places.take k)
        have hl5 : (places.take k).length ≤ places.length := by simp; (walk_at "o")
        refine ⟨_, .tail _ (.tail _ (.head _ _)), ?_⟩
        rw [natsV_getD hk]
        refine ss_cons ?_
        refine s_exprn ?_ rfl
        refine e_meth ?_ rfl rfl (by decide) rfl
        refine e_loc (.tail _ (.head _)) rfl ?_
        refine mo_extend (by walk_at "mem") ⟨keep_builtin, ?_⟩
        refine sw_cons ?_
        refine e_call ?_ rfl rfl
        refine e_gl F he g211_put_fixed32 (has_put_fixed32 G) ?_
        refine ⟨_, rfl, (kkeep141 G), ?_⟩
        refine sw_cons ?_
        refine e_loc (.tail _ (.tail _ (.head _))) rfl ?_
        refine sw_nil ?_
        refine FnS.callP (put_fixed32_spec G _ (by assumption) _) (by walk_at "o") ?_
        refine sw_nil ?_
        refine call_extend (by walk_at "upd") (by walk_at "sc") ?_
        refine ⟨trivial, ?_⟩
        refine ss_nil ?_
        exact ⟨_, .refl _, _, by rw [tabl_take hk, ← List.append_assoc]⟩
      · rintro _ ⟨pv, rfl⟩
        exact ⟨rfl, pv, by rw [natsV_length, List.take_length]⟩
    · rintro _ ⟨pv, rfl⟩
      have hl4 := tabl_length places
      have hnl := natsV_length places
      unfold bldOb
      refine ss_cons ?_
      refine s_exprn ?_ rfl
      refine e_meth ?_ rfl rfl (by decide) rfl
      refine e_loc (.tail _ (.head _)) rfl ?_
      refine mo_extend (by walk_at "mem") ⟨keep_builtin, ?_⟩
      refine sw_cons ?_
      refine e_call ?_ rfl rfl
      refine e_gl F he g211_put_fixed32 (has_put_fixed32 G) ?_
      refine ⟨_, rfl, (kkeep141 G), ?_⟩
      refine sw_cons ?_
      refine e_call ?_ rfl rfl
      refine e_gl F he g211_len (has_len G) ?_
      refine ⟨_, rfl, keep_builtin, ?_⟩
      refine sw_cons ?_
      refine e_attr ?_ rfl
      refine e_loc (.head _) rfl ?_
      refine a_inst (by walk_at "mem") (kcls214 G) (kfld214_restarts G) (by exact nd214) (by exact (mem_ix 3 rfl)) handed_ref ?_
      refine sw_nil ?_
      refine call_lenL (by walk_at "mem") (by walk_at "sc") ?_
      refine sw_nil ?_
      refine FnS.callP (put_fixed32_spec G (natsV places).length (by walk_at "o") _) (by walk_at "o") ?_
      refine sw_nil ?_
      refine call_extend (by walk_at "upd") (by walk_at "sc") ?_
      refine ⟨trivial, ?_⟩
      refine ss_cons ?_
      refine s_ret ?_
      refine e_call ?_ rfl rfl
      refine e_gl F he g211_bytes (has_bytes G) ?_
      refine ⟨_, rfl, keep_type, ?_⟩
      refine sw_cons ?_
      refine e_loc (.tail _ (.head _)) rfl ?_
      refine sw_nil ?_
      refine call_bytesA (by walk_at "mem") (by walk_at "sc") ?_
      exact ⟨_, .skip (.refl _), by rw [hnl], rfl⟩
noncomputable def blkOb (dx order rs : Addr) (data : List UInt8) (limit : Int) : Ob :=
  .inst 263 dx [("data", .bytes data), ("order", .cst (.ref order)), ("limit", .int limit), ("restarts", .cst (.ref rs))]
theorem rangeMap_getD (f : Nat → Nat) {k j : Nat} (h : j < k) : ((List.range k).map f).getD j 0 = f j := by
  simp [List.getD_eq_getElem?_getD, List.getElem?_map, List.getElem?_range h]
theorem tabs_getD {d : List UInt8} {k j : Nat} (h : j < k) : (tabs d k).getD j 0 = tabOf d j := rangeMap_getD _ h
theorem rangeMap_succ (f : Nat → Nat) (k : Nat) : natsV ((List.range (k + 1)).map f) = natsV ((List.range k).map f) ++ [.int (f k : Nat)] := by
  simp [natsV, List.range_succ]
theorem tabs_succ (d : List UInt8) (k : Nat) : natsV (tabs d (k + 1)) = natsV (tabs d k) ++ [.int (tabOf d k : Nat)] := rangeMap_succ _ k
structure BlkOk (d : List UInt8) : Prop where
  size : d.length ≤ 1000000
  four : 4 ≤ d.length
  cnt : 1 ≤ cntOf d
  room : 4 * (cntOf d + 1) ≤ d.length
structure Rise (d : List UInt8) (n : Nat) : Prop where
  first : tabOf d 0 = 0
  rise : ∀ k, k + 1 < n → tabOf d k < tabOf d (k + 1) ∧ tabOf d (k + 1) < limOf d
theorem block_init_spec {g : Gx} (G : GH g) (d : List UInt8) (B : BlkOk d) (T : Rise d (cntOf d)) (x dx order : Addr) (led : Led) :
    FnS g 2 232 [.cst (.ref x), .bytes d, .cst (.ref order)] ((x, .inst 263 dx []) :: led) (fun v led' => v = .none ∧ ∃ rs, led' = (rs, .list (natsV (tabs d (cntOf d)))) :: (x, blkOb dx order rs d (limOf d)) :: led) NoX := by
  obtain ⟨b1, b2, b3, b4⟩ := B
  refine fnS (kfn232 G) loc232 noc232 clo232 rfl fun c hg hn he => ?_
  subst hg
  have F := kfn232 G
  show WSs c _ _ ⟨[("self", .cst (.ref x)), ("data", .bytes d), ("order", .cst (.ref order)), ("size", .unset), ("count", .unset), ("turn", .unset), ("place", .unset)], [], [], _⟩ _
  refine ss_cons ?_
  refine s_setattr ?_ rfl
  refine e_call ?_ rfl rfl
  refine e_gl F he g232_bytes (has_bytes G) ?_
  refine ⟨_, rfl, keep_type, ?_⟩
  refine sw_cons ?_
  refine e_loc (.tail _ (.head _)) rfl ?_
  refine sw_nil ?_
  refine call_bytesB ?_
  refine e_loc (.head _) rfl ?_
  refine p_new (kcls263 G) (kfld263_data G) (by walk_at "upd") (by walk_at "len") (by exact new263_0) ?_
  refine ss_cons ?_
  refine s_setattr ?_ rfl
  refine e_loc (.tail _ (.tail _ (.head _))) rfl ?_
  refine e_loc (.head _) rfl ?_
  refine p_new (kcls263 G) (kfld263_order G) (by walk_at "upd") (by walk_at "len") (by exact new263_1) ?_
  refine ss_cons ?_
  refine s_assign ?_ rfl
  refine e_call ?_ rfl rfl
  refine e_gl F he g232_len (has_len G) ?_
  refine ⟨_, rfl, keep_builtin, ?_⟩
  refine sw_cons ?_
  refine e_attr ?_ rfl
  refine e_loc (.head _) rfl ?_
  refine a_inst (by walk_at "mem") (kcls263 G) (kfld263_data G) (by exact nd263_2) (by exact (.head _)) handed_bytes ?_
  refine sw_nil ?_
  refine call_lenB (by walk_at "sc") ?_
  refine ⟨_, (.tail _ (.tail _ (.tail _ (.head _ _)))), ?_⟩
  dsimp only
  refine ss_cons ?_
  apply s_ifp
  · apply bp_cmp (hm := rfl)
    refine e_loc (mem_ix 3 rfl) rfl ?_
    refine e_int ?_
    refine c_lt ?_
    refine t_bool ⟨rfl, rfl⟩
  · intro hp
    exfalso
    simp only [decide_eq_true_eq] at hp
    (walk_at "o")
  · intro _
    refine ss_nil ?_
    have e4 : (d.length : Int) - 4 = ((d.length - 4 : Nat) : Int) := by walk_at "o"
    refine ss_cons ?_
    refine s_assign ?_ rfl
    refine e_call ?_ rfl rfl
    refine e_gl F he g232_read_fixed32 (has_read_fixed32 G) ?_
    refine ⟨_, rfl, (kkeep148 G), ?_⟩
    refine sw_cons ?_
    refine e_attr ?_ rfl
    refine e_loc (.head _) rfl ?_
    refine a_inst (by walk_at "mem") (kcls263 G) (kfld263_data G) (by exact nd263_2) (by exact (.head _)) handed_bytes ?_
    refine sw_cons ?_
    refine e_bin ?_
    refine e_loc (mem_ix 3 rfl) rfl ?_
    refine e_int ?_
    refine o_sub ?_
    refine sw_nil ?_
    rw [e4]; refine FnS.callP (read_fixed32_spec G _ _ (by walk_at "o") (by walk_at "o") _) (by walk_at "o") ?_
    refine ⟨_, (.tail _ (.tail _ (.tail _ (.tail _ (.head _ _))))), ?_⟩
    dsimp only
    refine ss_cons ?_
    apply s_ifp
    · apply bp_cmp (hm := rfl)
      refine e_loc (mem_ix 4 rfl) rfl ?_
      refine e_int ?_
      refine c_lt ?_
      refine t_bool ⟨rfl, rfl⟩
    · intro hp
      exfalso
      have hp := of_decide_eq_true hp
      have : (u32 d (d.length - 4) : Int) < 1 := hp
      unfold cntOf at b3
      (walk_at "o")
    · intro _
      refine ss_nil ?_
      refine ss_cons ?_
      apply s_ifp
      · apply bp_cmp (hm := rfl)
        refine e_bin ?_
        refine e_int ?_
        refine e_bin ?_
        refine e_loc (mem_ix 4 rfl) rfl ?_
        refine e_int ?_
        refine o_add ?_
        refine o_mul (by walk_at "sc") ?_
        refine e_loc (mem_ix 3 rfl) rfl ?_
        refine c_gt ?_
        refine t_bool ⟨rfl, rfl⟩
      · intro hp
        exfalso
        have hp := of_decide_eq_true hp
        unfold cntOf at b4
        (walk_at "o")
      · intro _
        refine ss_nil ?_
        have e5 : (d.length : Int) - 4 * ((u32 d (d.length - 4) : Nat) + 1) = (limOf d : Int) := by
          unfold limOf; unfold cntOf at b4 ⊢; (walk_at "o")
        have e6 : u32 d (d.length - 4) = cntOf d := rfl
        refine ss_cons ?_
        refine s_setattr ?_ rfl
        refine e_bin ?_
        refine e_loc (mem_ix 3 rfl) rfl ?_
        refine e_bin ?_
        refine e_int ?_
        refine e_bin ?_
        refine e_loc (mem_ix 4 rfl) rfl ?_
        refine e_int ?_
        refine o_add ?_
        refine o_mul (by walk_at "o") ?_
        refine o_sub ?_
        rw [e5]
        refine e_loc (.head _) rfl ?_
        refine p_new (kcls263 G) (kfld263_limit G) (by walk_at "upd") (by walk_at "len") (by exact new263_2) ?_
        refine ss_cons ?_
        refine s_setattr ?_ rfl
        refine e_list rfl ?_
        refine sw_nil ⟨Nat.le_of_ble_eq_true rfl, fun _ => ?_⟩
        refine e_loc (.head _) rfl ?_
        refine p_new (kcls263 G) (kfld263_restarts G) (by walk_at "upd") (by walk_at "len") (by exact new263_3) ?_
        dsimp only
        rename_i rs
        rw [e6]
        refine ss_cons ?_
        refine s_for_range (fun k σ' => ∃ tv pv, σ' = ⟨[("self", .cst (.ref x)), ("data", .bytes d), ("order", .cst (.ref order)), ("size", .int d.length), ("count", .int (cntOf d : Nat)), ("turn", tv), ("place", pv)], [], [],
          (rs, .list (natsV (tabs d k))) :: (x, blkOb dx order rs d (limOf d)) :: led⟩) (cntOf d) (fun _ => rfl) (by walk_at "o") ?_ ?_ ?_
        · refine e_call ?_ rfl rfl
          refine e_gl F he g232_range (has_range G) ?_
          refine ⟨_, rfl, keep_type, ?_⟩
          refine sw_cons ?_
          refine e_loc (mem_ix 4 rfl) rfl ?_
          refine sw_nil ?_
          refine call_range fun _ => ?_
          exact ⟨_, _, rfl, rfl, .unset, .unset, rfl⟩
        · rintro k _ it hk ⟨tv, pv, rfl⟩
          refine ⟨_, .tail _ (.tail _ (.tail _ (.tail _ (.tail _ (.head _ _))))), ?_⟩
          have hkl : limOf d + 4 * k + 4 ≤ d.length := by unfold limOf; (walk_at "o")
          have e7 : (limOf d : Int) + 4 * k = ((limOf d + 4 * k : Nat) : Int) := by walk_at "o"
          unfold blkOb
          refine ss_cons ?_
          refine s_assign ?_ rfl
          refine e_call ?_ rfl rfl
          refine e_gl F he g232_read_fixed32 (has_read_fixed32 G) ?_
          refine ⟨_, rfl, (kkeep148 G), ?_⟩
          refine sw_cons ?_
          refine e_attr ?_ rfl
          refine e_loc (.head _) rfl ?_
          refine a_inst (by walk_at "mem") (kcls263 G) (kfld263_data G) (by exact nd263) (by exact (.head _)) handed_bytes ?_
          refine sw_cons ?_
          refine e_bin ?_
          refine e_attr ?_ rfl
          refine e_loc (.head _) rfl ?_
          refine a_inst (by walk_at "mem") (kcls263 G) (kfld263_limit G) (by exact nd263) (by exact (.tail _ (.tail _ (.head _)))) handed_int ?_
          refine e_bin ?_
          refine e_int ?_
          refine e_loc (mem_ix 5 rfl) rfl ?_
          refine o_mul (by walk_at "sc") ?_
          refine o_add ?_
          refine sw_nil ?_
          rw [e7]; refine FnS.callP (read_fixed32_spec G _ _ (by walk_at "o") (by walk_at "o") _) (by walk_at "o") ?_
          refine ⟨_, (.tail _ (.tail _ (.tail _ (.tail _ (.tail _ (.tail _ (.head _ _))))))), ?_⟩
          dsimp only
          have e8 : u32 d (limOf d + 4 * k) = tabOf d k := rfl
          rw [e8]
          have htl := tabs_length d k
          have t1 := T.first
          have t2 := T.rise
          refine ss_cut (fun σ' => σ' = ⟨[("self", .cst (.ref x)), ("data", .bytes d), ("order", .cst (.ref order)), ("size", .int d.length), ("count", .int (cntOf d : Nat)), ("turn", .int k), ("place", .int (tabOf d k : Nat))], [], [],
            (it, .rit ((k : Int) + 1) ((cntOf d : Int) - k - 1)) :: (rs, .list (natsV (tabs d k))) :: (x, blkOb dx order rs d (limOf d)) :: led⟩) ?_ ?_
          · apply s_ifp
            · apply bp_cmp (hm := rfl)
              refine e_loc (mem_ix 5 rfl) rfl ?_
              refine e_int ?_
              refine c_eq ?_
              refine t_bool ⟨rfl, rfl⟩
            · intro hp
              have hp := of_decide_eq_true hp
              have hk0 : k = 0 := by walk_at "o"
              subst hk0
              refine ss_cons ?_
              apply s_ifp
              · apply bp_cmp (hm := rfl)
                refine e_loc (mem_ix 6 rfl) rfl ?_
                refine e_int ?_
                refine c_ne ?_
                refine t_bool ⟨rfl, rfl⟩
              · intro hq
                exfalso
                have hq := of_decide_eq_true hq
                (walk_at "o")
              · intro _
                refine ss_nil ?_
                refine ss_nil ?_
                exact ⟨rfl, rfl⟩
            · intro hp
              have hp := of_decide_eq_false hp
              obtain ⟨j, rfl⟩ : ∃ j, k = j + 1 := ⟨k - 1, by walk_at "o"⟩
              have t3 := t2 j hk
              have e9 : (tabs d (j + 1)).getD (((j + 1 : Nat) : Int) - 1).toNat 0 = tabOf d j := by
                rw [show (((j + 1 : Nat) : Int) - 1).toNat = j by walk_at "o"]
                exact tabs_getD (by walk_at "o")
              refine ss_cons ?_
              apply s_ifp
              · apply bp_or
                · apply bp_cmp (hm := rfl)
                  refine e_loc (mem_ix 6 rfl) rfl ?_
                  refine e_sub ?_
                  refine e_attr ?_ rfl
                  refine e_loc (.head _) rfl ?_
                  refine a_inst (by walk_at "mem") (kcls263 G) (kfld263_restarts G) (by exact nd263) (by exact (mem_ix 3 rfl)) handed_ref ?_
                  refine e_bin ?_
                  refine e_loc (mem_ix 5 rfl) rfl ?_
                  refine e_int ?_
                  refine o_sub ?_
                  refine so_list (by walk_at "mem") (by walk_at "sc") (by walk_at "sc") (by walk_at "item") ?_
                  refine c_le ?_
                  refine t_bool ⟨rfl, rfl⟩
                · intro hp
                  walk_at "hp"
                  apply bp_cmp (hm := rfl)
                  refine e_loc (mem_ix 6 rfl) rfl ?_
                  refine e_attr ?_ rfl
                  refine e_loc (.head _) rfl ?_
                  refine a_inst (by walk_at "mem") (kcls263 G) (kfld263_limit G) (by exact nd263) (by exact (.tail _ (.tail _ (.head _)))) handed_int ?_
                  refine c_ge ?_
                  refine t_bool ⟨rfl, rfl⟩
              · intro hq
                exfalso
                rw [e9] at hq
                simp only [Bool.or_eq_true, decide_eq_true_eq] at hq
                (walk_at "o")
              · intro _
                refine ss_nil ?_
                refine ss_nil ?_
                exact ⟨rfl, rfl⟩
          · rintro _ rfl
            unfold blkOb
            refine ss_cons ?_
            refine s_exprn ?_ rfl
            refine e_meth ?_ rfl rfl (by decide) rfl
            refine e_attr ?_ rfl
            refine e_loc (.head _) rfl ?_
            refine a_inst (by walk_at "mem") (kcls263 G) (kfld263_restarts G) (by exact nd263) (by exact (mem_ix 3 rfl)) handed_ref ?_
            refine mo_append (by walk_at "mem") ⟨keep_builtin, ?_⟩
            refine sw_cons ?_
            refine e_loc (mem_ix 6 rfl) rfl ?_
            refine sw_nil ?_
            refine call_append (by walk_at "upd") (by walk_at "sc") ?_
            refine ⟨trivial, ?_⟩
            refine ss_nil ?_
            refine ⟨_, .refl _, .int k, .int (tabOf d k : Nat), ?_⟩
            rw [tabs_succ]
        · rintro _ ⟨tv, pv, rfl⟩
          refine ss_nil ?_
          exact ⟨_, .refl _, rfl, _, rfl⟩
section
variable {c : Fx} {E : Value → Shared → Prop} {σ : St}
theorem s_unpack2 {x y : Str} {p q : Pos} {k : Nat} {tp pos : Pos} {value : Expr} {Q : Fl → St → Prop}
    (h : WE c E value σ (fun v σ₁ => ∃ a vs loc', v = .cst (.ref a) ∧ (a, Ob.tup vs) ∈ σ₁.led ∧ vs.length = 2 ∧ SetVs [x, y] vs σ₁.loc loc' ∧ Q .next { σ₁ with loc := loc' }))
    (hs : swapsWithSole [.Tuple [.Name x p, .Name y q] k tp] value pos.line c.env = pure false) (hw : swappedStores [.Tuple [.Name x p, .Name y q] k tp] value c.env = pure none) :
    WS c E (.Assign [.Tuple [.Name x p, .Name y q] k tp] value pos) σ Q := s_unpack (xs := [(x, p), (y, q)]) h hs hw
theorem s_unpack4 {x y z u : Str} {p q r o : Pos} {k : Nat} {tp pos : Pos} {value : Expr} {Q : Fl → St → Prop}
    (h : WE c E value σ (fun v σ₁ => ∃ a vs loc', v = .cst (.ref a) ∧ (a, Ob.tup vs) ∈ σ₁.led ∧ vs.length = 4 ∧ SetVs [x, y, z, u] vs σ₁.loc loc' ∧ Q .next { σ₁ with loc := loc' }))
    (hs : swapsWithSole [.Tuple [.Name x p, .Name y q, .Name z r, .Name u o] k tp] value pos.line c.env = pure false) (hw : swappedStores [.Tuple [.Name x p, .Name y q, .Name z r, .Name u o] k tp] value c.env = pure none) :
    WS c E (.Assign [.Tuple [.Name x p, .Name y q, .Name z r, .Name u o] k tp] value pos) σ Q := s_unpack (xs := [(x, p), (y, q), (z, r), (u, o)]) h hs hw
end
noncomputable def BlkIn (x dx order rs : Addr) (d : List UInt8) (led : Led) : Prop := (x, blkOb dx order rs d (limOf d)) ∈ led ∧ (rs, Ob.list (natsV (tabs d (cntOf d)))) ∈ led
theorem BlkIn.mono {x dx order rs : Addr} {d : List UInt8} {l l' : Led} (h : BlkIn x dx order rs d l) (k : ∀ p ∈ l, p ∈ l') : BlkIn x dx order rs d l' := ⟨k _ h.1, k _ h.2⟩
theorem count_restarts_spec {g : Gx} (G : GH g) {x dx order rs : Addr} {d : List UInt8} {led : Led} (B : BlkOk d) (h : BlkIn x dx order rs d led) :
    FnS g 1 239 [.cst (.ref x)] led (fun v led' => v = .int (cntOf d : Nat) ∧ led' = led) NoX := by
  obtain ⟨b1, b2, b3, b4⟩ := B
  obtain ⟨h1, h2⟩ := h
  unfold blkOb at h1
  refine fnS (kfn239 G) loc239 noc239 clo239 rfl fun c hg hn he => ?_
  subst hg
  have F := kfn239 G
  have htl := tabs_length d (cntOf d)
  have hnl := natsV_length (tabs d (cntOf d))
  show WSs c _ _ ⟨[("self", .cst (.ref x))], [], [], _⟩ _
  refine ss_cons ?_
  refine s_ret ?_
  refine e_call ?_ rfl rfl
  refine e_gl F he g239_len (has_len G) ?_
  refine ⟨_, rfl, keep_builtin, ?_⟩
  refine sw_cons ?_
  refine e_attr ?_ rfl
  refine e_loc (.head _) rfl ?_
  refine a_inst (by walk_at "mem") (kcls263 G) (kfld263_restarts G) (by exact nd263) (by exact (mem_ix 3 rfl)) handed_ref ?_
  refine sw_nil ?_
  refine call_lenL (by walk_at "mem") (by walk_at "sc") ?_
  exact ⟨_, .refl _, by rw [hnl, htl], rfl⟩
structure EntOk (d : List UInt8) (k : Nat) : Prop where
  room : k + 2 < d.length
  a : (d.getD k 0).toNat < 128
  b : (d.getD (k + 1) 0).toNat < 128
  c : (d.getD (k + 2) 0).toNat < 128
  fits : k + 3 + (d.getD (k + 1) 0).toNat + (d.getD (k + 2) 0).toNat ≤ limOf d
noncomputable def shOf (d : List UInt8) (k : Nat) : Nat := (d.getD k 0).toNat
noncomputable def vaOf (d : List UInt8) (k : Nat) : Nat := k + 3 + (d.getD (k + 1) 0).toNat
noncomputable def enOf (d : List UInt8) (k : Nat) : Nat := k + 3 + (d.getD (k + 1) 0).toNat + (d.getD (k + 2) 0).toNat
theorem entry_at_spec {g : Gx} (G : GH g) {x dx order rs : Addr} {d : List UInt8} {led : Led} (B : BlkOk d) (h : BlkIn x dx order rs d led) (k : Nat) (H : EntOk d k) :
    FnS g 2 253 [.cst (.ref x), .int k] led (fun v led' => ∃ t, v = .cst (.ref t) ∧ led' = (t, .tup [.int (shOf d k : Nat), .int (k + 3 : Nat), .int (vaOf d k : Nat), .int (enOf d k : Nat)]) :: led) NoX := by
  obtain ⟨b1, b2, b3, b4⟩ := B
  obtain ⟨h1, h2⟩ := h
  obtain ⟨r1, r2, r3, r4, r5⟩ := H
  unfold blkOb at h1
  refine fnS (kfn253 G) loc253 noc253 clo253 rfl fun c hg hn he => ?_
  subst hg
  have F := kfn253 G
  show WSs c _ _ ⟨[("self", .cst (.ref x)), ("at", .int k), ("shared", .unset), ("place", .unset), ("unshared", .unset), ("length", .unset), ("value_at", .unset), ("end", .unset)], [], [], _⟩ _
  refine ss_cons ?_
  refine s_unpack2 ?_ rfl rfl
  refine e_call ?_ rfl rfl
  refine e_gl F he g253_read_varint32 (has_read_varint32 G) ?_
  refine ⟨_, rfl, (kkeep134 G), ?_⟩
  refine sw_cons ?_
  refine e_attr ?_ rfl
  refine e_loc (.head _) rfl ?_
  refine a_inst (by walk_at "mem") (kcls263 G) (kfld263_data G) (by exact nd263) (by exact (.head _)) handed_bytes ?_
  refine sw_cons ?_
  refine e_loc (.tail _ (.head _)) rfl ?_
  refine sw_nil ?_
  refine FnS.callT (read_varint32_spec G d (k : Nat) (by walk_at "o") (by walk_at "o") (by walk_at "o") r2 _) (by walk_at "o") fun _ => ?_
  refine ⟨_, _, _, rfl, by walk_at "mem", rfl, (.cons (.tail _ (.tail _ (.head _ _))) (.cons (.tail _ (.tail _ (.tail _ (.head _ _)))) (.nil _))), ?_⟩
  refine ss_cons ?_
  refine s_unpack2 ?_ rfl rfl
  refine e_call ?_ rfl rfl
  refine e_gl F he g253_read_varint32 (has_read_varint32 G) ?_
  refine ⟨_, rfl, (kkeep134 G), ?_⟩
  refine sw_cons ?_
  refine e_attr ?_ rfl
  refine e_loc (.head _) rfl ?_
  refine a_inst (by walk_at "mem") (kcls263 G) (kfld263_data G) (by exact nd263) (by exact (.head _)) handed_bytes ?_
  refine sw_cons ?_
  refine e_loc (mem_ix 3 rfl) rfl ?_
  refine sw_nil ?_
  refine FnS.callT (read_varint32_spec G d ((k : Int) + 1) (by walk_at "o") (by walk_at "o") (by walk_at "o") (by rw [show ((k : Int) + 1).toNat = k + 1 by walk_at "o"]; exact r3) _) (by walk_at "o") fun _ => ?_
  refine ⟨_, _, _, rfl, by walk_at "mem", rfl, (.cons (.tail _ (.tail _ (.tail _ (.tail _ (.head _ _))))) (.cons (.tail _ (.tail _ (.tail _ (.head _ _)))) (.nil _))), ?_⟩
  refine ss_cons ?_
  refine s_unpack2 ?_ rfl rfl
  refine e_call ?_ rfl rfl
  refine e_gl F he g253_read_varint32 (has_read_varint32 G) ?_
  refine ⟨_, rfl, (kkeep134 G), ?_⟩
  refine sw_cons ?_
  refine e_attr ?_ rfl
  refine e_loc (.head _) rfl ?_
  refine a_inst (by walk_at "mem") (kcls263 G) (kfld263_data G) (by exact nd263) (by exact (.head _)) handed_bytes ?_
  refine sw_cons ?_
  refine e_loc (mem_ix 3 rfl) rfl ?_
  refine sw_nil ?_
  refine FnS.callT (read_varint32_spec G d ((k : Int) + 1 + 1) (by walk_at "o") (by walk_at "o") (by walk_at "o") (by rw [show ((k : Int) + 1 + 1).toNat = k + 2 by walk_at "o"]; exact r4) _) (by walk_at "o") fun _ => ?_
  refine ⟨_, _, _, rfl, by walk_at "mem", rfl, (.cons (.tail _ (.tail _ (.tail _ (.tail _ (.tail _ (.head _ _)))))) (.cons (.tail _ (.tail _ (.tail _ (.head _ _)))) (.nil _))), ?_⟩
  refine ss_cons ?_
  refine s_assign ?_ rfl
  refine e_bin ?_
  refine e_loc (mem_ix 3 rfl) rfl ?_
  refine e_loc (mem_ix 4 rfl) rfl ?_
  refine o_add ?_
  refine ⟨_, (.tail _ (.tail _ (.tail _ (.tail _ (.tail _ (.tail _ (.head _ _))))))), ?_⟩
  refine ss_cons ?_
  refine s_assign ?_ rfl
  refine e_bin ?_
  refine e_loc (mem_ix 6 rfl) rfl ?_
  refine e_loc (mem_ix 5 rfl) rfl ?_
  refine o_add ?_
  refine ⟨_, (.tail _ (.tail _ (.tail _ (.tail _ (.tail _ (.tail _ (.tail _ (.head _ _)))))))), ?_⟩
  dsimp only
  refine ss_cons ?_
  apply s_ifp
  · apply bp_cmp (hm := rfl)
    refine e_loc (mem_ix 7 rfl) rfl ?_
    refine e_attr ?_ rfl
    refine e_loc (.head _) rfl ?_
    refine a_inst (by walk_at "mem") (kcls263 G) (kfld263_limit G) (by exact nd263) (by exact (.tail _ (.tail _ (.head _)))) handed_int ?_
    refine c_gt ?_
    refine t_bool ⟨rfl, rfl⟩
  · intro hp
    exfalso
    have hp := of_decide_eq_true hp
    have e1 : ((k : Int) + 1).toNat = k + 1 := by walk_at "o"
    have e2 : ((k : Int) + 1 + 1).toNat = k + 2 := by walk_at "o"
    rw [e1, e2] at hp
    (walk_at "o")
  · intro _
    refine ss_nil ?_
    refine ss_cons ?_
    refine s_ret ?_
    refine e_tuple rfl ?_
    refine sw_cons ?_
    refine e_loc (.tail _ (.tail _ (.head _))) rfl ?_
    refine sw_cons ?_
    refine e_loc (mem_ix 3 rfl) rfl ?_
    refine sw_cons ?_
    refine e_loc (mem_ix 6 rfl) rfl ?_
    refine sw_cons ?_
    refine e_loc (mem_ix 7 rfl) rfl ?_
    refine sw_nil ⟨Nat.le_of_ble_eq_true rfl, fun _ => ?_⟩
    have e0 : ((k : Int)).toNat = k := by walk_at "o"
    have e1 : ((k : Int) + 1).toNat = k + 1 := by walk_at "o"
    have e2 : ((k : Int) + 1 + 1).toNat = k + 2 := by walk_at "o"
    rename_i t
    refine ⟨_, Sub.cons (.skip (.skip (.skip (.refl _)))), t, rfl, ?_⟩
    rw [e0, e1, e2]
    rfl
noncomputable def keyAt (d : List UInt8) (k : Nat) : List UInt8 := (d.drop (k + 3)).take (vaOf d k - (k + 3))
theorem toNat_cast (k : Nat) : ((k : Int)).toNat = k := Int.toNat_natCast k
theorem restart_key_spec {g : Gx} (G : GH g) {x dx order rs : Addr} {d : List UInt8} {led : Led} (B : BlkOk d) (h : BlkIn x dx order rs d led) (k : Nat) (hk : k < cntOf d) (H : EntOk d (tabOf d k)) (hs : shOf d (tabOf d k) = 0) :
    FnS g 3 260 [.cst (.ref x), .int k] led (fun v led' => v = .bytes (keyAt d (tabOf d k)) ∧ led' = led) NoX := by
  have B' := B
  have h' := h
  obtain ⟨b1, b2, b3, b4⟩ := B
  obtain ⟨h1, h2⟩ := h
  unfold blkOb at h1
  refine fnS (kfn260 G) loc260 noc260 clo260 rfl fun c hg hn he => ?_
  subst hg
  have F := kfn260 G
  have htl := tabs_length d (cntOf d)
  show WSs c _ _ ⟨[("self", .cst (.ref x)), ("turn", .int k), ("shared", .unset), ("place", .unset), ("value_at", .unset), ("end", .unset)], [], [], _⟩ _
  have e : (tabs d (cntOf d)).getD ((k : Int)).toNat 0 = tabOf d k := by rw [toNat_cast]; exact tabs_getD hk
  refine ss_cons ?_
  refine s_unpack4 ?_ rfl rfl
  refine e_meth ?_ rfl rfl (by decide) rfl
  refine e_loc (.head _) rfl ?_
  refine mo_inst (by walk_at "mem") (kcls263 G) (kmeth263_entry_at G) (by exact nm263_entry_at) ⟨kkeep253 G, ?_⟩
  refine sw_cons ?_
  refine e_sub ?_
  refine e_attr ?_ rfl
  refine e_loc (.head _) rfl ?_
  refine a_inst (by walk_at "mem") (kcls263 G) (kfld263_restarts G) (by exact nd263) (by exact (mem_ix 3 rfl)) handed_ref ?_
  refine e_loc (.tail _ (.head _)) rfl ?_
  refine so_list (by walk_at "mem") (by walk_at "sc") (by walk_at "sc") (by walk_at "item") ?_
  refine sw_nil ?_
  rw [e]; refine FnS.callT (entry_at_spec G B' h' _ H) (by walk_at "o") fun _ => ?_
  refine ⟨_, _, _, rfl, by walk_at "mem", rfl, (.cons (.tail _ (.tail _ (.head _ _))) (.cons (.tail _ (.tail _ (.tail _ (.head _ _)))) (.cons (.tail _ (.tail _ (.tail _ (.tail _ (.head _ _))))) (.cons (.tail _ (.tail _ (.tail _ (.tail _ (.tail _ (.head _ _)))))) (.nil _))))), ?_⟩
  dsimp only
  rw [hs]
  refine ss_cons ?_
  apply s_ifp
  · apply bp_cmp (hm := rfl)
    refine e_loc (.tail _ (.tail _ (.head _))) rfl ?_
    refine e_int ?_
    refine c_ne ?_
    refine t_bool ⟨rfl, rfl⟩
  · intro hp
    exact absurd rfl (of_decide_eq_true hp)
  · intro _
    refine ss_nil ?_
    refine ss_cons ?_
    refine s_ret ?_
    refine e_slice ?_
    refine e_attr ?_ rfl
    refine e_loc (.head _) rfl ?_
    refine a_inst (by walk_at "mem") (kcls263 G) (kfld263_data G) (by exact nd263) (by exact (.head _)) handed_bytes ?_
    refine e_loc (mem_ix 3 rfl) rfl ?_
    refine ⟨_, rfl, ?_⟩
    refine e_loc (mem_ix 4 rfl) rfl ?_
    refine ⟨_, rfl, ?_⟩
    refine sl_bytes (by walk_at "sc") ?_
    refine ⟨_, .skip (.refl _), ?_, rfl⟩
    have hf := H.fits
    have : limOf d ≤ d.length := by unfold limOf; (walk_at "o")
    rw [cutB_of (by unfold vaOf; (walk_at "o")) (by unfold vaOf; (walk_at "o"))]
    rfl
noncomputable def itOb (dx blk order : Addr) (cur ahead turn : Nat) (held : List UInt8) (vf : Nat) : Ob :=
  .inst 375 dx [("block", .cst (.ref blk)), ("order", .cst (.ref order)), ("current", .int cur), ("ahead", .int ahead), ("turn", .int turn), ("held_key", .bytes held), ("value_from", .int vf)]
theorem iter_init_spec {g : Gx} (G : GH g) {b bx order rs : Addr} {d : List UInt8} {led : Led} (h : BlkIn b bx order rs d led) (x dx : Addr) :
    FnS g 1 281 [.cst (.ref x), .cst (.ref b)] ((x, .inst 375 dx []) :: led) (fun v led' => v = .none ∧ led' = (x, itOb dx b order (limOf d) (limOf d) 0 [] 0) :: led) NoX := by
  obtain ⟨h1, h2⟩ := h
  unfold blkOb at h1
  refine fnS (kfn281 G) loc281 noc281 clo281 rfl fun c hg hn he => ?_
  subst hg
  have F := kfn281 G
  show WSs c _ _ ⟨[("self", .cst (.ref x)), ("block", .cst (.ref b))], [], [], _⟩ _
  refine ss_cons ?_
  refine s_setattr ?_ rfl
  refine e_loc (.tail _ (.head _)) rfl ?_
  refine e_loc (.head _) rfl ?_
  refine p_new (kcls375 G) (kfld375_block G) (by walk_at "upd") (by walk_at "len") (by exact new375_0) ?_
  refine ss_cons ?_
  refine s_setattr ?_ rfl
  refine e_attr ?_ rfl
  refine e_loc (.tail _ (.head _)) rfl ?_
  refine a_inst (by walk_at "mem") (kcls263 G) (kfld263_order G) (by exact nd263) (by exact (.tail _ (.head _))) handed_ref ?_
  refine e_loc (.head _) rfl ?_
  refine p_new (kcls375 G) (kfld375_order G) (by walk_at "upd") (by walk_at "len") (by exact new375_1) ?_
  refine ss_cons ?_
  refine s_setattr ?_ rfl
  refine e_attr ?_ rfl
  refine e_loc (.tail _ (.head _)) rfl ?_
  refine a_inst (by walk_at "mem") (kcls263 G) (kfld263_limit G) (by exact nd263) (by exact (.tail _ (.tail _ (.head _)))) handed_int ?_
  refine e_loc (.head _) rfl ?_
  refine p_new (kcls375 G) (kfld375_current G) (by walk_at "upd") (by walk_at "len") (by exact new375_2) ?_
  refine ss_cons ?_
  refine s_setattr ?_ rfl
  refine e_attr ?_ rfl
  refine e_loc (.tail _ (.head _)) rfl ?_
  refine a_inst (by walk_at "mem") (kcls263 G) (kfld263_limit G) (by exact nd263) (by exact (.tail _ (.tail _ (.head _)))) handed_int ?_
  refine e_loc (.head _) rfl ?_
  refine p_new (kcls375 G) (kfld375_ahead G) (by walk_at "upd") (by walk_at "len") (by exact new375_3) ?_
  refine ss_cons ?_
  refine s_setattr ?_ rfl
  refine e_int ?_
  refine e_loc (.head _) rfl ?_
  refine p_new (kcls375 G) (kfld375_turn G) (by walk_at "upd") (by walk_at "len") (by exact new375_4) ?_
  refine ss_cons ?_
  refine s_setattr ?_ rfl
  refine e_bytes ?_
  refine e_loc (.head _) rfl ?_
  refine p_new (kcls375 G) (kfld375_held_key G) (by walk_at "upd") (by walk_at "len") (by exact new375_5) ?_
  refine ss_cons ?_
  refine s_setattr ?_ rfl
  refine e_int ?_
  refine e_loc (.head _) rfl ?_
  refine p_new (kcls375 G) (kfld375_value_from G) (by walk_at "upd") (by walk_at "len") (by exact new375_6) ?_
  refine ss_nil ?_
  exact ⟨_, .refl _, rfl, rfl⟩
theorem walk_spec {g : Gx} (G : GH g) {b bx order rs : Addr} {d : List UInt8} {led : Led} (h : BlkIn b bx order rs d led) :
    FnS g 3 246 [.cst (.ref b)] led (fun v led' => ∃ x dx, v = .cst (.ref x) ∧ led' = (x, itOb dx b order (limOf d) (limOf d) 0 [] 0) :: led) NoX := by
  refine fnS (kfn246 G) loc246 noc246 clo246 rfl fun c hg hn he => ?_
  subst hg
  have F := kfn246 G
  show WSs c _ _ ⟨[("self", .cst (.ref b))], [], [], _⟩ _
  refine ss_cons ?_
  refine s_ret ?_
  refine e_call ?_ rfl rfl
  refine e_gl F he g246_BlockIter (has_BlockIter G) ?_
  refine ⟨_, rfl, (kkeep375 G), ?_⟩
  refine sw_cons ?_
  refine e_loc (.head _) rfl ?_
  refine sw_nil ?_
  refine call_class (X := NoX) (Q0 := fun x led' => ∃ dx, led' = (x, itOb dx b order (limOf d) (limOf d) 0 [] 0) :: led) (kmakes375 G) (show 1 + 1 ≤ c.n by walk_at "o") (fun x dx => ?_) (fun _ _ hz => ?_) (fun x led' hq => ?_)
  · intro c' σ' s A vs hg hR hl hA hr hv
    exact wpS_mono (iter_init_spec G h x dx c' σ' s A vs hg hR hl hA hr hv) (fun u s' zq => by obtain ⟨v, led', R', hv, e, q⟩ := zq; exact ⟨v, led', R', hv, e, dx, q⟩) fun _ _ z => z
  · obtain ⟨_, _, _, _, z⟩ := hz
    exact z.elim
  · obtain ⟨dx, rfl⟩ := hq
    exact ⟨_, .refl _, x, dx, rfl, rfl⟩
theorem lose_spec {g : Gx} (G : GH g) {x dx b bx order rs : Addr} {d held : List UInt8} {cur ahead turn vf : Nat} {rest : Led} (h : BlkIn b bx order rs d rest) :
    FnS g 1 288 [.cst (.ref x)] ((x, itOb dx b order cur ahead turn held vf) :: rest) (fun v led' => v = .none ∧ led' = (x, itOb dx b order (limOf d) (limOf d) turn [] vf) :: rest) NoX := by
  obtain ⟨h1, h2⟩ := h
  unfold blkOb at h1
  unfold itOb
  refine fnS (kfn288 G) loc288 noc288 clo288 rfl fun c hg hn he => ?_
  subst hg
  have F := kfn288 G
  show WSs c _ _ ⟨[("self", .cst (.ref x))], [], [], _⟩ _
  refine ss_cons ?_
  refine s_setattr ?_ rfl
  refine e_attr ?_ rfl
  refine e_attr ?_ rfl
  refine e_loc (.head _) rfl ?_
  refine a_inst (by walk_at "mem") (kcls375 G) (kfld375_block G) (by exact nd375) (by exact (.head _)) handed_ref ?_
  refine a_inst (by walk_at "mem") (kcls263 G) (kfld263_limit G) (by exact nd263) (by exact (.tail _ (.tail _ (.head _)))) handed_int ?_
  refine e_loc (.head _) rfl ?_
  refine p_set (kcls375 G) (kfld375_current G) (by walk_at "upd") (by walk_at "len") (by exact nd375) (by exact (.tail _ (.tail _ (.head _ _)))) ?_
  refine ss_cons ?_
  refine s_setattr ?_ rfl
  refine e_attr ?_ rfl
  refine e_attr ?_ rfl
  refine e_loc (.head _) rfl ?_
  refine a_inst (by walk_at "mem") (kcls375 G) (kfld375_block G) (by exact nd375) (by exact (.head _)) handed_ref ?_
  refine a_inst (by walk_at "mem") (kcls263 G) (kfld263_limit G) (by exact nd263) (by exact (.tail _ (.tail _ (.head _)))) handed_int ?_
  refine e_loc (.head _) rfl ?_
  refine p_set (kcls375 G) (kfld375_ahead G) (by walk_at "upd") (by walk_at "len") (by exact nd375) (by exact (.tail _ (.tail _ (.tail _ (.head _ _))))) ?_
  refine ss_cons ?_
  refine s_setattr ?_ rfl
  refine e_bytes ?_
  refine e_loc (.head _) rfl ?_
  refine p_set (kcls375 G) (kfld375_held_key G) (by walk_at "upd") (by walk_at "len") (by exact nd375) (by exact (.tail _ (.tail _ (.tail _ (.tail _ (.tail _ (.head _ _))))))) ?_
  refine ss_nil ?_
  exact ⟨_, .refl _, rfl, rfl⟩
theorem valid_spec {g : Gx} (G : GH g) {x dx b bx order rs : Addr} {d held : List UInt8} {cur ahead turn vf : Nat} {led : Led} (hx : (x, itOb dx b order cur ahead turn held vf) ∈ led) (h : BlkIn b bx order rs d led) :
    FnS g 1 302 [.cst (.ref x)] led (fun v led' => v = .bool (decide (cur < limOf d)) ∧ led' = led) NoX := by
  obtain ⟨h1, h2⟩ := h
  unfold blkOb at h1
  unfold itOb at hx
  refine fnS (kfn302 G) loc302 noc302 clo302 rfl fun c hg hn he => ?_
  subst hg
  have F := kfn302 G
  show WSs c _ _ ⟨[("self", .cst (.ref x))], [], [], _⟩ _
  refine ss_cons ?_
  refine s_ret ?_
  refine e_cmp ?_ rfl
  refine e_attr ?_ rfl
  refine e_loc (.head _) rfl ?_
  refine a_inst (by walk_at "mem") (kcls375 G) (kfld375_current G) (by exact nd375) (by exact (.tail _ (.tail _ (.head _)))) handed_int ?_
  refine e_attr ?_ rfl
  refine e_attr ?_ rfl
  refine e_loc (.head _) rfl ?_
  refine a_inst (by walk_at "mem") (kcls375 G) (kfld375_block G) (by exact nd375) (by exact (.head _)) handed_ref ?_
  refine a_inst (by walk_at "mem") (kcls263 G) (kfld263_limit G) (by exact nd263) (by exact (.tail _ (.tail _ (.head _)))) handed_int ?_
  refine c_lt ?_
  exact ⟨_, .refl _, by simp only [Int.ofNat_lt], rfl⟩
theorem need_spec {g : Gx} (G : GH g) {x dx b bx order rs : Addr} {d held : List UInt8} {cur ahead turn vf : Nat} {led : Led} (hx : (x, itOb dx b order cur ahead turn held vf) ∈ led) (h : BlkIn b bx order rs d led) (hc : cur < limOf d) :
    FnS g 1 295 [.cst (.ref x)] led (fun v led' => v = .none ∧ led' = led) NoX := by
  obtain ⟨h1, h2⟩ := h
  unfold blkOb at h1
  unfold itOb at hx
  refine fnS (kfn295 G) loc295 noc295 clo295 rfl fun c hg hn he => ?_
  subst hg
  have F := kfn295 G
  show WSs c _ _ ⟨[("self", .cst (.ref x))], [], [], _⟩ _
  refine ss_cons ?_
  apply s_ifp
  · apply bp_cmp (hm := rfl)
    refine e_attr ?_ rfl
    refine e_loc (.head _) rfl ?_
    refine a_inst (by walk_at "mem") (kcls375 G) (kfld375_current G) (by exact nd375) (by exact (.tail _ (.tail _ (.head _)))) handed_int ?_
    refine e_attr ?_ rfl
    refine e_attr ?_ rfl
    refine e_loc (.head _) rfl ?_
    refine a_inst (by walk_at "mem") (kcls375 G) (kfld375_block G) (by exact nd375) (by exact (.head _)) handed_ref ?_
    refine a_inst (by walk_at "mem") (kcls263 G) (kfld263_limit G) (by exact nd263) (by exact (.tail _ (.tail _ (.head _)))) handed_int ?_
    refine c_ge ?_
    refine t_bool ⟨rfl, rfl⟩
  · intro hp
    exfalso
    have hp := of_decide_eq_true hp
    (walk_at "o")
  · intro _
    refine ss_nil ?_
    refine ss_nil ?_
    exact ⟨_, .refl _, rfl, rfl⟩
theorem key_spec {g : Gx} (G : GH g) {x dx b bx order rs : Addr} {d held : List UInt8} {cur ahead turn vf : Nat} {led : Led} (hx : (x, itOb dx b order cur ahead turn held vf) ∈ led) (h : BlkIn b bx order rs d led) (hc : cur < limOf d) :
    FnS g 2 309 [.cst (.ref x)] led (fun v led' => v = .bytes held ∧ led' = led) NoX := by
  have hx' := hx
  have h' := h
  obtain ⟨h1, h2⟩ := h
  unfold blkOb at h1
  unfold itOb at hx
  refine fnS (kfn309 G) loc309 noc309 clo309 rfl fun c hg hn he => ?_
  subst hg
  have F := kfn309 G
  show WSs c _ _ ⟨[("self", .cst (.ref x))], [], [], _⟩ _
  refine ss_cons ?_
  refine s_exprn ?_ rfl
  refine e_meth ?_ rfl rfl (by decide) rfl
  refine e_loc (.head _) rfl ?_
  refine mo_inst (by walk_at "mem") (kcls375 G) (kmeth375_need G) (by exact nm375_need) ⟨kkeep295 G, ?_⟩
  refine sw_nil ?_
  refine FnS.callP (need_spec G hx' h' hc) (by walk_at "o") ?_
  refine ⟨trivial, ?_⟩
  refine ss_cons ?_
  refine s_ret ?_
  refine e_attr ?_ rfl
  refine e_loc (.head _) rfl ?_
  refine a_inst (by walk_at "mem") (kcls375 G) (kfld375_held_key G) (by exact nd375) (by exact (mem_ix 5 rfl)) handed_bytes ?_
  exact ⟨_, .refl _, rfl, rfl⟩
theorem value_spec {g : Gx} (G : GH g) {x dx b bx order rs : Addr} {d held : List UInt8} {cur ahead turn vf : Nat} {led : Led} (hx : (x, itOb dx b order cur ahead turn held vf) ∈ led) (h : BlkIn b bx order rs d led) (hc : cur < limOf d) (hz : d.length ≤ 1000000) (h1 : vf ≤ ahead) (h2 : ahead ≤ d.length) :
    FnS g 2 316 [.cst (.ref x)] led (fun v led' => v = .bytes ((d.drop vf).take (ahead - vf)) ∧ led' = led) NoX := by
  have hx' := hx
  have h' := h
  obtain ⟨h3, h4⟩ := h
  unfold blkOb at h3
  unfold itOb at hx
  refine fnS (kfn316 G) loc316 noc316 clo316 rfl fun c hg hn he => ?_
  subst hg
  have F := kfn316 G
  show WSs c _ _ ⟨[("self", .cst (.ref x))], [], [], _⟩ _
  refine ss_cons ?_
  refine s_exprn ?_ rfl
  refine e_meth ?_ rfl rfl (by decide) rfl
  refine e_loc (.head _) rfl ?_
  refine mo_inst (by walk_at "mem") (kcls375 G) (kmeth375_need G) (by exact nm375_need) ⟨kkeep295 G, ?_⟩
  refine sw_nil ?_
  refine FnS.callP (need_spec G hx' h' hc) (by walk_at "o") ?_
  refine ⟨trivial, ?_⟩
  refine ss_cons ?_
  refine s_ret ?_
  refine e_slice ?_
  refine e_attr ?_ rfl
  refine e_attr ?_ rfl
  refine e_loc (.head _) rfl ?_
  refine a_inst (by walk_at "mem") (kcls375 G) (kfld375_block G) (by exact nd375) (by exact (.head _)) handed_ref ?_
  refine a_inst (by walk_at "mem") (kcls263 G) (kfld263_data G) (by exact nd263) (by exact (.head _)) handed_bytes ?_
  refine e_attr ?_ rfl
  refine e_loc (.head _) rfl ?_
  refine a_inst (by walk_at "mem") (kcls375 G) (kfld375_value_from G) (by exact nd375) (by exact (mem_ix 6 rfl)) handed_int ?_
  refine ⟨_, rfl, ?_⟩
  refine e_attr ?_ rfl
  refine e_loc (.head _) rfl ?_
  refine a_inst (by walk_at "mem") (kcls375 G) (kfld375_ahead G) (by exact nd375) (by exact (mem_ix 3 rfl)) handed_int ?_
  refine ⟨_, rfl, ?_⟩
  refine sl_bytes (by walk_at "sc") ?_
  exact ⟨_, .refl _, by rw [cutB_of h1 h2], rfl⟩
theorem go_restart_spec {g : Gx} (G : GH g) {x dx b bx order rs : Addr} {d held : List UInt8} {cur ahead turn vf : Nat} {rest : Led} (h : BlkIn b bx order rs d rest) (B : BlkOk d) (k : Nat) (hk : k < cntOf d) :
    FnS g 2 323 [.cst (.ref x), .int k] ((x, itOb dx b order cur ahead turn held vf) :: rest) (fun v led' => v = .none ∧ led' = (x, itOb dx b order (limOf d) (tabOf d k) k [] vf) :: rest) NoX := by
  have h' := h
  obtain ⟨h1, h2⟩ := h
  obtain ⟨b1, b2, b3, b4⟩ := B
  unfold blkOb at h1
  refine fnS (kfn323 G) loc323 noc323 clo323 rfl fun c hg hn he => ?_
  subst hg
  have F := kfn323 G
  have htl := tabs_length d (cntOf d)
  have e : (tabs d (cntOf d)).getD ((k : Int)).toNat 0 = tabOf d k := by rw [toNat_cast]; exact tabs_getD hk
  show WSs c _ _ ⟨[("self", .cst (.ref x)), ("turn", .int k)], [], [], _⟩ _
  refine ss_cons ?_
  refine s_exprn ?_ rfl
  refine e_meth ?_ rfl rfl (by decide) rfl
  refine e_loc (.head _) rfl ?_
  refine mo_inst (.head _) (kcls375 G) (kmeth375_lose G) (by exact nm375_lose) ⟨kkeep288 G, ?_⟩
  refine sw_nil ?_
  refine FnS.callP (lose_spec G h') (by walk_at "o") ?_
  refine ⟨trivial, ?_⟩
  unfold itOb
  refine ss_cons ?_
  refine s_setattr ?_ rfl
  refine e_loc (.tail _ (.head _)) rfl ?_
  refine e_loc (.head _) rfl ?_
  refine p_set (kcls375 G) (kfld375_turn G) (by walk_at "upd") (by walk_at "len") (by exact nd375) (by exact (.tail _ (.tail _ (.tail _ (.tail _ (.head _ _)))))) ?_
  refine ss_cons ?_
  refine s_setattr ?_ rfl
  refine e_sub ?_
  refine e_attr ?_ rfl
  refine e_attr ?_ rfl
  refine e_loc (.head _) rfl ?_
  refine a_inst (by walk_at "mem") (kcls375 G) (kfld375_block G) (by exact nd375) (by exact (.head _)) handed_ref ?_
  refine a_inst (by walk_at "mem") (kcls263 G) (kfld263_restarts G) (by exact nd263) (by exact (mem_ix 3 rfl)) handed_ref ?_
  refine e_loc (.tail _ (.head _)) rfl ?_
  refine so_list (by walk_at "mem") (by walk_at "sc") (by walk_at "sc") (by walk_at "item") ?_
  refine e_loc (.head _) rfl ?_
  refine p_set (kcls375 G) (kfld375_ahead G) (by walk_at "upd") (by walk_at "len") (by exact nd375) (by exact (.tail _ (.tail _ (.tail _ (.head _ _))))) ?_
  refine ss_nil ?_
  refine ⟨_, .refl _, rfl, ?_⟩
  rw [e]
structure ParseOk (d : List UInt8) (a t t' : Nat) (before : List UInt8) : Prop where
  ent : EntOk d a
  sh : shOf d a ≤ before.length
  le : t ≤ t'
  lt : t' < cntOf d
  low : ∀ j, t < j → j ≤ t' → tabOf d j ≤ a
  high : t' + 1 < cntOf d → enOf d a ≤ tabOf d (t' + 1)
  whole : a = tabOf d t' → shOf d a = 0
theorem parse_end_spec {g : Gx} (G : GH g) {x dx b bx order rs : Addr} {d held : List UInt8} {cur ahead turn vf : Nat} {rest : Led} (h : BlkIn b bx order rs d rest) (B : BlkOk d) (ha : limOf d ≤ ahead) :
    FnS g 4 330 [.cst (.ref x)] ((x, itOb dx b order cur ahead turn held vf) :: rest) (fun v led' => v = .bool false ∧ led' = (x, itOb dx b order (limOf d) (limOf d) turn [] vf) :: rest) NoX := by
  have h' := h
  obtain ⟨h1, h2⟩ := h
  unfold blkOb at h1
  refine fnS (kfn330 G) loc330 noc330 clo330 rfl fun c hg hn he => ?_
  subst hg
  have F := kfn330 G
  show WSs c _ _ ⟨[("self", .cst (.ref x)), ("start", .unset), ("before", .unset), ("shared", .unset), ("place", .unset), ("value_at", .unset), ("end", .unset), ("restarts", .unset)], [], [], _⟩ _
  unfold itOb
  refine ss_cons ?_
  refine s_assign ?_ rfl
  refine e_attr ?_ rfl
  refine e_loc (.head _) rfl ?_
  refine a_inst (by walk_at "mem") (kcls375 G) (kfld375_ahead G) (by exact nd375) (by exact (mem_ix 3 rfl)) handed_int ?_
  refine ⟨_, (.tail _ (.head _ _)), ?_⟩
  refine ss_cons ?_
  refine s_assign ?_ rfl
  refine e_attr ?_ rfl
  refine e_loc (.head _) rfl ?_
  refine a_inst (by walk_at "mem") (kcls375 G) (kfld375_held_key G) (by exact nd375) (by exact (mem_ix 5 rfl)) handed_bytes ?_
  refine ⟨_, (.tail _ (.tail _ (.head _ _))), ?_⟩
  dsimp only
  refine ss_cons ?_
  refine s_exprn ?_ rfl
  refine e_meth ?_ rfl rfl (by decide) rfl
  refine e_loc (.head _) rfl ?_
  refine mo_inst (by walk_at "mem") (kcls375 G) (kmeth375_lose G) (by exact nm375_lose) ⟨kkeep288 G, ?_⟩
  refine sw_nil ?_
  refine FnS.callP (lose_spec (dx := dx) (cur := cur) (ahead := ahead) (turn := turn) (held := held) (vf := vf) G h') (by walk_at "o") ?_
  refine ⟨trivial, ?_⟩
  dsimp only
  unfold itOb
  refine ss_cons ?_
  apply s_ifp
  · apply bp_cmp (hm := rfl)
    refine e_loc (.tail _ (.head _)) rfl ?_
    refine e_attr ?_ rfl
    refine e_attr ?_ rfl
    refine e_loc (.head _) rfl ?_
    refine a_inst (by walk_at "mem") (kcls375 G) (kfld375_block G) (by exact nd375) (by exact (.head _)) handed_ref ?_
    refine a_inst (by walk_at "mem") (kcls263 G) (kfld263_limit G) (by exact nd263) (by exact (.tail _ (.tail _ (.head _)))) handed_int ?_
    refine c_ge ?_
    refine t_bool ⟨rfl, rfl⟩
  · intro hp
    refine ss_cons ?_
    refine s_ret ?_
    refine e_bool ?_
    exact ⟨_, .refl _, rfl, rfl⟩
  · intro hp
    exfalso
    have hp := of_decide_eq_false hp
    (walk_at "o")
theorem parse_spec {g : Gx} (G : GH g) {x dx b bx order rs : Addr} {d held : List UInt8} {cur a t t' vf : Nat} {rest : Led} (h : BlkIn b bx order rs d rest) (B : BlkOk d) (ha : a < limOf d) (H : ParseOk d a t t' held) (hh : held.length ≤ 1000000) :
    FnS g 4 330 [.cst (.ref x)] ((x, itOb dx b order cur a t held vf) :: rest) (fun v led' => v = .bool true ∧ led' = (x, itOb dx b order a (enOf d a) t' (held.take (shOf d a) ++ keyAt d a) (vaOf d a)) :: rest) NoX := by
  have h' := h
  have B' := B
  obtain ⟨h1, h2⟩ := h
  obtain ⟨b1, b2, b3, b4⟩ := B
  obtain ⟨p1, p2, p3, p4, p5, p6, p7⟩ := H
  unfold blkOb at h1
  refine fnS (kfn330 G) loc330 noc330 clo330 rfl fun c hg hn he => ?_
  subst hg
  have F := kfn330 G
  have htl := tabs_length d (cntOf d)
  have hnl := natsV_length (tabs d (cntOf d))
  have hf := p1.fits
  have hld : limOf d ≤ d.length := by unfold limOf; (walk_at "o")
  show WSs c _ _ ⟨[("self", .cst (.ref x)), ("start", .unset), ("before", .unset), ("shared", .unset), ("place", .unset), ("value_at", .unset), ("end", .unset), ("restarts", .unset)], [], [], _⟩ _
  unfold itOb
  refine ss_cons ?_
  refine s_assign ?_ rfl
  refine e_attr ?_ rfl
  refine e_loc (.head _) rfl ?_
  refine a_inst (by walk_at "mem") (kcls375 G) (kfld375_ahead G) (by exact nd375) (by exact (mem_ix 3 rfl)) handed_int ?_
  refine ⟨_, (.tail _ (.head _ _)), ?_⟩
  refine ss_cons ?_
  refine s_assign ?_ rfl
  refine e_attr ?_ rfl
  refine e_loc (.head _) rfl ?_
  refine a_inst (by walk_at "mem") (kcls375 G) (kfld375_held_key G) (by exact nd375) (by exact (mem_ix 5 rfl)) handed_bytes ?_
  refine ⟨_, (.tail _ (.tail _ (.head _ _))), ?_⟩
  dsimp only
  refine ss_cons ?_
  refine s_exprn ?_ rfl
  refine e_meth ?_ rfl rfl (by decide) rfl
  refine e_loc (.head _) rfl ?_
  refine mo_inst (by walk_at "mem") (kcls375 G) (kmeth375_lose G) (by exact nm375_lose) ⟨kkeep288 G, ?_⟩
  refine sw_nil ?_
  refine FnS.callP (lose_spec (dx := dx) (cur := cur) (ahead := a) (turn := t) (held := held) (vf := vf) G h') (by walk_at "o") ?_
  refine ⟨trivial, ?_⟩
  dsimp only
  unfold itOb
  refine ss_cons ?_
  apply s_ifp
  · apply bp_cmp (hm := rfl)
    refine e_loc (.tail _ (.head _)) rfl ?_
    refine e_attr ?_ rfl
    refine e_attr ?_ rfl
    refine e_loc (.head _) rfl ?_
    refine a_inst (by walk_at "mem") (kcls375 G) (kfld375_block G) (by exact nd375) (by exact (.head _)) handed_ref ?_
    refine a_inst (by walk_at "mem") (kcls263 G) (kfld263_limit G) (by exact nd263) (by exact (.tail _ (.tail _ (.head _)))) handed_int ?_
    refine c_ge ?_
    refine t_bool ⟨rfl, rfl⟩
  · intro hp
    exfalso
    have hp := of_decide_eq_true hp
    (walk_at "o")
  · intro _
    refine ss_nil ?_
    refine ss_cons ?_
    refine s_unpack4 ?_ rfl rfl
    refine e_meth ?_ rfl rfl (by decide) rfl
    refine e_attr ?_ rfl
    refine e_loc (.head _) rfl ?_
    refine a_inst (by walk_at "mem") (kcls375 G) (kfld375_block G) (by exact nd375) (by exact (.head _)) handed_ref ?_
    refine mo_inst (by walk_at "mem") (kcls263 G) (kmeth263_entry_at G) (by exact nm263_entry_at) ⟨kkeep253 G, ?_⟩
    refine sw_cons ?_
    refine e_loc (.tail _ (.head _)) rfl ?_
    refine sw_nil ?_
    refine FnS.callT (entry_at_spec G B' (h'.mono fun p hp => .tail _ hp) a p1) (by walk_at "o") fun tp => ?_
    refine ⟨_, _, _, rfl, by walk_at "mem", rfl, (.cons (.tail _ (.tail _ (.tail _ (.head _ _)))) (.cons (.tail _ (.tail _ (.tail _ (.tail _ (.head _ _))))) (.cons (.tail _ (.tail _ (.tail _ (.tail _ (.tail _ (.head _ _)))))) (.cons (.tail _ (.tail _ (.tail _ (.tail _ (.tail _ (.tail _ (.head _ _))))))) (.nil _))))), ?_⟩
    dsimp only
    refine ss_cons ?_
    apply s_ifp
    · apply bp_cmp (hm := rfl)
      refine e_loc (mem_ix 3 rfl) rfl ?_
      refine e_call ?_ rfl rfl
      refine e_gl F he g330_len (has_len G) ?_
      refine ⟨_, rfl, keep_builtin, ?_⟩
      refine sw_cons ?_
      refine e_loc (.tail _ (.tail _ (.head _))) rfl ?_
      refine sw_nil ?_
      refine call_lenB (by walk_at "sc") ?_
      refine c_gt ?_
      refine t_bool ⟨rfl, rfl⟩
    · intro hp
      exfalso
      have hp := of_decide_eq_true hp
      (walk_at "o")
    · intro _
      refine ss_nil ?_
      refine ss_cons ?_
      refine s_assign ?_ rfl
      refine e_attr ?_ rfl
      refine e_attr ?_ rfl
      refine e_loc (.head _) rfl ?_
      refine a_inst (by walk_at "mem") (kcls375 G) (kfld375_block G) (by exact nd375) (by exact (.head _)) handed_ref ?_
      refine a_inst (by walk_at "mem") (kcls263 G) (kfld263_restarts G) (by exact nd263) (by exact (mem_ix 3 rfl)) handed_ref ?_
      refine ⟨_, (.tail _ (.tail _ (.tail _ (.tail _ (.tail _ (.tail _ (.tail _ (.head _ _)))))))), ?_⟩
      dsimp only
      have c1 : cutB held none (some (shOf d a : Int)) = held.take (shOf d a) := cutB_to p2
      have c2 : cutB d (some ((a + 3 : Nat) : Int)) (some (vaOf d a : Int)) = keyAt d a := cutB_of (by unfold vaOf; (walk_at "o")) (by unfold vaOf; (walk_at "o"))
      have c3 : (cutB held none (some (shOf d a : Int))).length ≤ held.length := by rw [c1]; simp; (walk_at "o")
      have c4 : (cutB d (some ((a + 3 : Nat) : Int)) (some (vaOf d a : Int))).length ≤ d.length := by rw [c2]; unfold keyAt; simp; (walk_at "o")
      refine ss_cons ?_
      refine s_whilep (fun n σ' => ∃ i, n + i = t' ∧ t ≤ i ∧ σ' = ⟨[("self", .cst (.ref x)), ("start", .int a), ("before", .bytes held), ("shared", .int (shOf d a : Nat)), ("place", .int (a + 3 : Nat)), ("value_at", .int (vaOf d a : Nat)), ("end", .int (enOf d a : Nat)), ("restarts", .cst (.ref rs))], [], [],
        (tp, .tup [.int (shOf d a : Nat), .int (a + 3 : Nat), .int (vaOf d a : Nat), .int (enOf d a : Nat)]) :: (x, itOb dx b order (limOf d) (limOf d) i [] vf) :: rest⟩) ?_ (t' - t) ⟨t, by walk_at "o", Nat.le_refl _, rfl⟩
      rintro n _ ⟨i, hi, hti, rfl⟩
      have g1 : ∀ j, j < cntOf d → (tabs d (cntOf d)).getD j 0 = tabOf d j := fun j hj => tabs_getD hj
      have g2 : ((i : Int) + 1).toNat = i + 1 := by walk_at "o"
      have g3 : enOf d a > a := by unfold enOf; (walk_at "o")
      unfold itOb
      refine ⟨decide ((i : Int) + 1 < ((natsV (tabs d (cntOf d))).length : Int)) && decide ((((tabs d (cntOf d)).getD ((i : Int) + 1).toNat 0 : Nat) : Int) ≤ (a : Int)), ?_, ?_, ?_⟩
      · apply bp_and
        · apply bp_cmp (hm := rfl)
          refine e_bin ?_
          refine e_attr ?_ rfl
          refine e_loc (.head _) rfl ?_
          refine a_inst (by walk_at "mem") (kcls375 G) (kfld375_turn G) (by exact nd375) (by exact (mem_ix 4 rfl)) handed_int ?_
          refine e_int ?_
          refine o_add ?_
          refine e_call ?_ rfl rfl
          refine e_gl F he g330_len (has_len G) ?_
          refine ⟨_, rfl, keep_builtin, ?_⟩
          refine sw_cons ?_
          refine e_loc (mem_ix 7 rfl) rfl ?_
          refine sw_nil ?_
          refine call_lenL (by walk_at "mem") (by walk_at "sc") ?_
          refine c_lt ?_
          refine t_bool ⟨rfl, rfl⟩
        · intro hp
          walk_at "hp"
          apply bp_cmp (hm := rfl)
          refine e_sub ?_
          refine e_loc (mem_ix 7 rfl) rfl ?_
          refine e_bin ?_
          refine e_attr ?_ rfl
          refine e_loc (.head _) rfl ?_
          refine a_inst (by walk_at "mem") (kcls375 G) (kfld375_turn G) (by exact nd375) (by exact (mem_ix 4 rfl)) handed_int ?_
          refine e_int ?_
          refine o_add ?_
          refine so_list (by walk_at "mem") (by walk_at "sc") (by walk_at "so") (by walk_at "item") ?_
          refine e_loc (.tail _ (.head _)) rfl ?_
          refine c_le ?_
          refine t_bool ⟨rfl, rfl⟩
      · intro hp
        simp only [Bool.and_eq_true, decide_eq_true_eq] at hp
        rw [g2, g1 (i + 1) (by walk_at "o")] at hp
        have hlt : i < t' := by
          rcases Nat.lt_or_ge i t' with q | q
          · exact q
          · exfalso
            have : i = t' := by walk_at "o"
            subst this
            have := p6 (by walk_at "o")
            (walk_at "o")
        refine ss_cons ?_
        refine s_augattr ?_
        refine e_loc (.head _) rfl ?_
        refine a_inst (by walk_at "mem") (kcls375 G) (kfld375_turn G) (by exact nd375) (by exact (mem_ix 4 rfl)) handed_int ?_
        refine e_int ?_
        refine io_add ?_
        refine p_set (kcls375 G) (kfld375_turn G) (by walk_at "upd") (by walk_at "len") (by exact nd375) (by exact (.tail _ (.tail _ (.tail _ (.tail _ (.head _ _)))))) ?_
        refine ss_nil ?_
        exact ⟨n - 1, _, by walk_at "o", .refl _, i + 1, by walk_at "o", by walk_at "o", rfl⟩
      · intro hp
        have hit : i = t' := by
          rcases Nat.lt_or_ge i t' with q | q
          · exfalso
            have l1 := p5 (i + 1) (by walk_at "o") (by walk_at "o")
            rw [g2, g1 (i + 1) (by walk_at "o")] at hp
            simp only [Bool.and_eq_false_imp, decide_eq_true_eq, decide_eq_false_iff_not] at hp
            exact hp (by walk_at "o") (by walk_at "o")
          · (walk_at "o")
        subst hit
        have g4 : ((i : Int)).toNat = i := Int.toNat_natCast i
        have g5 := g1 i p4
        refine ss_cons ?_
        apply s_ifp
        · apply bp_and
          · apply bp_cmp (hm := rfl)
            refine e_loc (.tail _ (.head _)) rfl ?_
            refine e_sub ?_
            refine e_loc (mem_ix 7 rfl) rfl ?_
            refine e_attr ?_ rfl
            refine e_loc (.head _) rfl ?_
            refine a_inst (by walk_at "mem") (kcls375 G) (kfld375_turn G) (by exact nd375) (by exact (mem_ix 4 rfl)) handed_int ?_
            refine so_list (by walk_at "mem") (by walk_at "sc") (by walk_at "so") (by walk_at "item") ?_
            refine c_eq ?_
            refine t_bool ⟨rfl, rfl⟩
          · intro hp
            walk_at "hp"
            apply bp_cmp (hm := rfl)
            refine e_loc (mem_ix 3 rfl) rfl ?_
            refine e_int ?_
            refine c_ne ?_
            refine t_bool ⟨rfl, rfl⟩
        · intro hq
          exfalso
          rw [g4, g5] at hq
          simp only [Bool.and_eq_true, decide_eq_true_eq] at hq
          have := p7 (by walk_at "o")
          (walk_at "o")
        · intro _
          refine ss_nil ?_
          refine ss_cons ?_
          apply s_ifp
          · apply bp_and
            · apply bp_cmp (hm := rfl)
              refine e_bin ?_
              refine e_attr ?_ rfl
              refine e_loc (.head _) rfl ?_
              refine a_inst (by walk_at "mem") (kcls375 G) (kfld375_turn G) (by exact nd375) (by exact (mem_ix 4 rfl)) handed_int ?_
              refine e_int ?_
              refine o_add ?_
              refine e_call ?_ rfl rfl
              refine e_gl F he g330_len (has_len G) ?_
              refine ⟨_, rfl, keep_builtin, ?_⟩
              refine sw_cons ?_
              refine e_loc (mem_ix 7 rfl) rfl ?_
              refine sw_nil ?_
              refine call_lenL (by walk_at "mem") (by walk_at "sc") ?_
              refine c_lt ?_
              refine t_bool ⟨rfl, rfl⟩
            · intro hp
              walk_at "hp"
              apply bp_cmp (hm := rfl)
              refine e_sub ?_
              refine e_loc (mem_ix 7 rfl) rfl ?_
              refine e_bin ?_
              refine e_attr ?_ rfl
              refine e_loc (.head _) rfl ?_
              refine a_inst (by walk_at "mem") (kcls375 G) (kfld375_turn G) (by exact nd375) (by exact (mem_ix 4 rfl)) handed_int ?_
              refine e_int ?_
              refine o_add ?_
              refine so_list (by walk_at "mem") (by walk_at "sc") (by walk_at "so") (by walk_at "item") ?_
              refine e_loc (mem_ix 6 rfl) rfl ?_
              refine c_lt ?_
              refine t_bool ⟨rfl, rfl⟩
          · intro hq
            exfalso
            simp only [Bool.and_eq_true, decide_eq_true_eq] at hq
            rw [g2, g1 (i + 1) (by walk_at "o")] at hq
            have := p6 (by walk_at "o")
            (walk_at "o")
          · intro _
            refine ss_nil ?_
            refine ss_cons ?_
            refine s_setattr ?_ rfl
            refine e_bin ?_
            refine e_slice ?_
            refine e_loc (.tail _ (.tail _ (.head _))) rfl ?_
            refine e_loc (mem_ix 3 rfl) rfl ?_
            refine ⟨_, rfl, ?_⟩
            refine sl_bytes (by walk_at "sc") ?_
            refine e_slice ?_
            refine e_attr ?_ rfl
            refine e_attr ?_ rfl
            refine e_loc (.head _) rfl ?_
            refine a_inst (by walk_at "mem") (kcls375 G) (kfld375_block G) (by exact nd375) (by exact (.head _)) handed_ref ?_
            refine a_inst (by walk_at "mem") (kcls263 G) (kfld263_data G) (by exact nd263) (by exact (.head _)) handed_bytes ?_
            refine e_loc (mem_ix 4 rfl) rfl ?_
            refine ⟨_, rfl, ?_⟩
            refine e_loc (mem_ix 5 rfl) rfl ?_
            refine ⟨_, rfl, ?_⟩
            refine sl_bytes (by walk_at "sc") ?_
            refine o_addB (by walk_at "sc") ?_
            refine e_loc (.head _) rfl ?_
            refine p_set (kcls375 G) (kfld375_held_key G) (by walk_at "upd") (by walk_at "len") (by exact nd375) (by exact (.tail _ (.tail _ (.tail _ (.tail _ (.tail _ (.head _ _))))))) ?_
            refine ss_cons ?_
            refine s_setattr ?_ rfl
            refine e_loc (mem_ix 5 rfl) rfl ?_
            refine e_loc (.head _) rfl ?_
            refine p_set (kcls375 G) (kfld375_value_from G) (by walk_at "upd") (by walk_at "len") (by exact nd375) (by exact (.tail _ (.tail _ (.tail _ (.tail _ (.tail _ (.tail _ (.head _ _)))))))) ?_
            refine ss_cons ?_
            refine s_setattr ?_ rfl
            refine e_loc (.tail _ (.head _)) rfl ?_
            refine e_loc (.head _) rfl ?_
            refine p_set (kcls375 G) (kfld375_current G) (by walk_at "upd") (by walk_at "len") (by exact nd375) (by exact (.tail _ (.tail _ (.head _ _)))) ?_
            refine ss_cons ?_
            refine s_setattr ?_ rfl
            refine e_loc (mem_ix 6 rfl) rfl ?_
            refine e_loc (.head _) rfl ?_
            refine p_set (kcls375 G) (kfld375_ahead G) (by walk_at "upd") (by walk_at "len") (by exact nd375) (by exact (.tail _ (.tail _ (.tail _ (.head _ _))))) ?_
            refine ss_cons ?_
            refine s_ret ?_
            refine e_bool ?_
            rw [c1, c2]
            exact ⟨_, .skip (.refl _), rfl, rfl⟩
structure Lay (d : List UInt8) (n I : Nat) (pos : Nat → Nat) (key val : Nat → List UInt8) : Prop where
  ok : BlkOk d
  I0 : 1 ≤ I
  n0 : 1 ≤ n
  cnt : cntOf d = (n + I - 1) / I
  tab : ∀ k, k * I < n → tabOf d k = pos (k * I)
  last : pos n = limOf d
  ent : ∀ i, i < n → EntOk d (pos i)
  next : ∀ i, i < n → enOf d (pos i) = pos (i + 1)
  sh0 : ∀ i, i < n → i % I = 0 → shOf d (pos i) = 0
  sh1 : ∀ i, i < n → i % I ≠ 0 → shOf d (pos i) ≤ (key (i - 1)).length
  key0 : ∀ i, i < n → i % I = 0 → key i = keyAt d (pos i)
  key1 : ∀ i, i < n → i % I ≠ 0 → key i = (key (i - 1)).take (shOf d (pos i)) ++ keyAt d (pos i)
  val : ∀ i, i < n → val i = (d.drop (vaOf d (pos i))).take (pos (i + 1) - vaOf d (pos i))
  klen : ∀ i, i < n → (key i).length ≤ 100
section
variable {d : List UInt8} {n I : Nat} {pos : Nat → Nat} {key val : Nat → List UInt8}
theorem Lay.step (L : Lay d n I pos key val) {i : Nat} (h : i < n) : pos i < pos (i + 1) := by
  rw [← L.next i h]; unfold enOf; (walk_at "o")
theorem Lay.mono (L : Lay d n I pos key val) : ∀ {j i : Nat}, i ≤ j → j ≤ n → pos i ≤ pos j := by
  intro j
  induction j with
  | zero => intro i h _; rw [show i = 0 by walk_at "o"]; exact Nat.le_refl _
  | succ j ih =>
    intro i h hj
    rcases Nat.lt_or_ge i (j + 1) with q | q
    · exact Nat.le_trans (ih (by walk_at "o") (by walk_at "o")) (Nat.le_of_lt (L.step (by walk_at "o")))
    · rw [show i = j + 1 by walk_at "o"]; exact Nat.le_refl _
theorem Lay.strict (L : Lay d n I pos key val) {i j : Nat} (h : i < j) (hj : j ≤ n) : pos i < pos j :=
  Nat.lt_of_lt_of_le (L.step (by walk_at "o")) (L.mono (i := i + 1) (by walk_at "o") hj)
theorem Lay.inj (L : Lay d n I pos key val) {i j : Nat} (hi : i ≤ n) (hj : j ≤ n) (e : pos i = pos j) : i = j := by
  rcases Nat.lt_trichotomy i j with q | q | q
  · have := L.strict q hj; (walk_at "o")
  · exact q
  · have := L.strict q hi; (walk_at "o")
theorem Lay.lim (L : Lay d n I pos key val) {i : Nat} (h : i < n) : pos i < limOf d := by
  rw [← L.last]; exact L.strict h (Nat.le_refl _)
theorem Lay.cntLt (L : Lay d n I pos key val) {k : Nat} : k < cntOf d ↔ k * I < n := by
  have h0 := L.I0
  rw [L.cnt]
  constructor
  · intro h
    have := (Nat.le_div_iff_mul_le (by walk_at "o" : 0 < I)).mp (show k + 1 ≤ (n + I - 1) / I by walk_at "o")
    rw [Nat.succ_mul] at this
    (walk_at "o")
  · intro h
    have : k + 1 ≤ (n + I - 1) / I := (Nat.le_div_iff_mul_le (by walk_at "o" : 0 < I)).mpr (by rw [Nat.succ_mul]; (walk_at "o"))
    (walk_at "o")
theorem Lay.parseOk (L : Lay d n I pos key val) {i t : Nat} {before : List UInt8} (h : i < n) (ht : t ≤ i / I) (hb : i % I = 0 ∨ before = key (i - 1)) :
    ParseOk d (pos i) t (i / I) before ∧ before.take (shOf d (pos i)) ++ keyAt d (pos i) = key i := by
  have h0 : 0 < I := L.I0
  have hd := Nat.div_mul_le_self i I
  have hdm := Nat.div_add_mod i I
  have hml := Nat.mod_lt i h0
  have hc : I * (i / I) = i / I * I := Nat.mul_comm ..
  have hs : (i / I + 1) * I = i / I * I + I := Nat.succ_mul ..
  refine ⟨⟨L.ent i h, ?_, ht, L.cntLt.mpr (by walk_at "o"), fun j h1 h2 => ?_, fun hh => ?_, fun e => ?_⟩, ?_⟩
  · rcases Nat.eq_zero_or_pos (i % I) with q | q
    · rw [L.sh0 i h q]; (walk_at "o")
    · rcases hb with hb | hb
      · (walk_at "o")
      · rw [hb]; exact L.sh1 i h (by walk_at "o")
  · have : j * I ≤ i / I * I := Nat.mul_le_mul_right _ h2
    rw [L.tab j (by walk_at "o")]
    exact L.mono (by walk_at "o") (by walk_at "o")
  · have := L.cntLt.mp hh
    rw [L.next i h, L.tab _ this]
    exact L.mono (by walk_at "o") (by walk_at "o")
  · rw [L.tab _ (by walk_at "o")] at e
    have := L.inj (by walk_at "o") (by walk_at "o") e
    exact L.sh0 i h (by walk_at "o")
  · rcases Nat.eq_zero_or_pos (i % I) with q | q
    · rw [L.sh0 i h q, L.key0 i h q]; simp
    · rcases hb with hb | hb
      · (walk_at "o")
      · rw [hb, ← L.key1 i h (by walk_at "o")]
end
noncomputable def stOb (dx b order : Addr) (d : List UInt8) (I : Nat) (pos : Nat → Nat) (key : Nat → List UInt8) (i : Nat) : Ob := itOb dx b order (pos i) (pos (i + 1)) (i / I) (key i) (vaOf d (pos i))
noncomputable def loOb (dx b order : Addr) (d : List UInt8) (t vf : Nat) : Ob := itOb dx b order (limOf d) (limOf d) t [] vf
section
variable {g : Gx} {x dx b bx order rs : Addr} {d held : List UInt8} {n I : Nat} {pos : Nat → Nat} {key val : Nat → List UInt8} {rest : Led}
theorem parse_to (G : GH g) (L : Lay d n I pos key val) (h : BlkIn b bx order rs d rest) {cur i t vf : Nat} (hi : i < n) (ht : t ≤ i / I) (hb : i % I = 0 ∨ held = key (i - 1)) (hh : held.length ≤ 1000000) :
    FnS g 4 330 [.cst (.ref x)] ((x, itOb dx b order cur (pos i) t held vf) :: rest) (fun v led' => v = .bool true ∧ led' = (x, stOb dx b order d I pos key i) :: rest) NoX := by
  obtain ⟨p1, p2⟩ := L.parseOk hi ht hb
  have := parse_spec (x := x) (dx := dx) (order := order) (cur := cur) (vf := vf) G h L.ok (L.lim hi) p1 hh
  rw [p2, L.next i hi] at this
  exact this
theorem parse_next (G : GH g) (L : Lay d n I pos key val) (h : BlkIn b bx order rs d rest) {i : Nat} (hi : i < n) :
    FnS g 4 330 [.cst (.ref x)] ((x, stOb dx b order d I pos key i) :: rest)
      (fun v led' => v = .bool (decide (i + 1 < n)) ∧ led' = (x, if i + 1 < n then stOb dx b order d I pos key (i + 1) else loOb dx b order d (i / I) (vaOf d (pos i))) :: rest) NoX := by
  by_cases q : i + 1 < n
  · rw [if_pos q, decide_eq_true q]
    exact parse_to G L h q (Nat.div_le_div_right (by walk_at "o")) (.inr rfl) (by have := L.klen i hi; (walk_at "o"))
  · rw [if_neg q, decide_eq_false q]
    have e : i + 1 = n := by walk_at "o"
    exact parse_end_spec G h L.ok (by rw [e, L.last]; exact Nat.le_refl _)
theorem seek_first_spec (G : GH g) (L : Lay d n I pos key val) (h : BlkIn b bx order rs d rest) {cur ahead turn vf : Nat} :
    FnS g 5 337 [.cst (.ref x)] ((x, itOb dx b order cur ahead turn held vf) :: rest) (fun v led' => v = .none ∧ led' = (x, stOb dx b order d I pos key 0) :: rest) NoX := by
  have h0 := L.n0
  have hc : 0 < cntOf d := L.cntLt.mpr (by walk_at "o")
  refine fnS (kfn337 G) loc337 noc337 clo337 rfl fun c hg hn he => ?_
  subst hg
  have F := kfn337 G
  show WSs c _ _ ⟨[("self", .cst (.ref x))], [], [], _⟩ _
  have e0 : tabOf d 0 = pos 0 := by have := L.tab 0 (by walk_at "o"); rw [Nat.zero_mul] at this; exact this
  refine ss_cons ?_
  refine s_exprn ?_ rfl
  refine e_meth ?_ rfl rfl (by decide) rfl
  refine e_loc (.head _) rfl ?_
  refine mo_inst (.head _) (kcls375 G) (kmeth375_go_restart G) (by exact nm375_go_restart) ⟨kkeep323 G, ?_⟩
  refine sw_cons ?_
  refine e_int ?_
  refine sw_nil ?_
  refine FnS.callP (go_restart_spec G h L.ok 0 hc) (by walk_at "o") ?_
  refine ⟨trivial, ?_⟩
  rw [e0]
  refine ss_cons ?_
  refine s_exprn ?_ rfl
  refine e_meth ?_ rfl rfl (by decide) rfl
  refine e_loc (.head _) rfl ?_
  refine mo_inst (.head _) (kcls375 G) (kmeth375_parse G) (by exact nm375_parse) ⟨kkeep330 G, ?_⟩
  refine sw_nil ?_
  refine FnS.callP (parse_to G L h (i := 0) (by walk_at "o") (Nat.zero_le _) (.inl (Nat.zero_mod _)) (Nat.zero_le _)) (by walk_at "o") ?_
  refine ⟨trivial, ?_⟩
  refine ss_nil ?_
  exact ⟨_, .refl _, rfl, rfl⟩
theorem step_spec (G : GH g) (L : Lay d n I pos key val) (h : BlkIn b bx order rs d rest) {i : Nat} (hi : i < n) :
    FnS g 5 365 [.cst (.ref x)] ((x, stOb dx b order d I pos key i) :: rest) (fun v led' => v = .none ∧ led' = (x, if i + 1 < n then stOb dx b order d I pos key (i + 1) else loOb dx b order d (i / I) (vaOf d (pos i))) :: rest) NoX := by
  refine fnS (kfn365 G) loc365 noc365 clo365 rfl fun c hg hn he => ?_
  subst hg
  have F := kfn365 G
  show WSs c _ _ ⟨[("self", .cst (.ref x))], [], [], _⟩ _
  refine ss_cons ?_
  refine s_exprn ?_ rfl
  refine e_meth ?_ rfl rfl (by decide) rfl
  refine e_loc (.head _) rfl ?_
  refine mo_inst (.head _) (kcls375 G) (kmeth375_need G) (by exact nm375_need) ⟨kkeep295 G, ?_⟩
  refine sw_nil ?_
  refine FnS.callP (need_spec G (.head _) (h.mono fun p hp => .tail _ hp) (L.lim hi)) (by walk_at "o") ?_
  refine ⟨trivial, ?_⟩
  refine ss_cons ?_
  refine s_exprn ?_ rfl
  refine e_meth ?_ rfl rfl (by decide) rfl
  refine e_loc (.head _) rfl ?_
  refine mo_inst (.head _) (kcls375 G) (kmeth375_parse G) (by exact nm375_parse) ⟨kkeep330 G, ?_⟩
  refine sw_nil ?_
  refine FnS.callP (parse_next G L h hi) (by walk_at "o") ?_
  refine ⟨trivial, ?_⟩
  refine ss_nil ?_
  exact ⟨_, .refl _, rfl, rfl⟩
theorem seek_last_spec (G : GH g) (L : Lay d n I pos key val) (h : BlkIn b bx order rs d rest) {cur ahead turn vf : Nat} :
    FnS g 5 344 [.cst (.ref x)] ((x, itOb dx b order cur ahead turn held vf) :: rest) (fun v led' => v = .none ∧ led' = (x, stOb dx b order d I pos key (n - 1)) :: rest) NoX := by
  have h0 := L.n0
  have hI := L.I0
  have hB := L.ok
  obtain ⟨b1, b2, b3, b4⟩ := hB
  have htl := tabs_length d (cntOf d)
  have hnl := natsV_length (tabs d (cntOf d))
  obtain ⟨k, hk⟩ : ∃ k, cntOf d = k + 1 := ⟨cntOf d - 1, by walk_at "o"⟩
  have hkn : k * I < n := L.cntLt.mp (by walk_at "o")
  have h' := h
  obtain ⟨h1, h2⟩ := h
  unfold blkOb at h1
  refine fnS (kfn344 G) loc344 noc344 clo344 rfl fun c hg hn he => ?_
  subst hg
  have F := kfn344 G
  show WSs c _ _ ⟨[("self", .cst (.ref x))], [], [], _⟩ _
  have e1 : ((natsV (tabs d (cntOf d))).length : Int) - 1 = (k : Int) := by walk_at "o"
  unfold itOb
  refine ss_cons ?_
  refine s_exprn ?_ rfl
  refine e_meth ?_ rfl rfl (by decide) rfl
  refine e_loc (.head _) rfl ?_
  refine mo_inst (by walk_at "mem") (kcls375 G) (kmeth375_go_restart G) (by exact nm375_go_restart) ⟨kkeep323 G, ?_⟩
  refine sw_cons ?_
  refine e_bin ?_
  refine e_call ?_ rfl rfl
  refine e_gl F he g344_len (has_len G) ?_
  refine ⟨_, rfl, keep_builtin, ?_⟩
  refine sw_cons ?_
  refine e_attr ?_ rfl
  refine e_attr ?_ rfl
  refine e_loc (.head _) rfl ?_
  refine a_inst (by walk_at "mem") (kcls375 G) (kfld375_block G) (by exact nd375) (by exact (.head _)) handed_ref ?_
  refine a_inst (by walk_at "mem") (kcls263 G) (kfld263_restarts G) (by exact nd263) (by exact (mem_ix 3 rfl)) handed_ref ?_
  refine sw_nil ?_
  refine call_lenL (by walk_at "mem") (by walk_at "sc") ?_
  refine e_int ?_
  refine o_sub ?_
  refine sw_nil ?_
  rw [e1]; refine FnS.callP (go_restart_spec (dx := dx) (cur := cur) (ahead := ahead) (turn := turn) (held := held) (vf := vf) G h' L.ok k (by walk_at "o")) (by walk_at "o") ?_
  refine ⟨trivial, ?_⟩
  rw [L.tab k hkn]
  refine ss_cons ?_
  refine s_exprn ?_ rfl
  refine e_meth ?_ rfl rfl (by decide) rfl
  refine e_loc (.head _) rfl ?_
  refine mo_inst (by walk_at "mem") (kcls375 G) (kmeth375_parse G) (by exact nm375_parse) ⟨kkeep330 G, ?_⟩
  refine sw_nil ?_
  refine FnS.callP (parse_to G L h' (i := k * I) hkn (by rw [Nat.mul_div_cancel _ hI]; exact Nat.le_refl _) (.inl (Nat.mul_mod_left ..)) (Nat.zero_le _)) (by walk_at "o") ?_
  refine ⟨trivial, ?_⟩
  refine ss_cons ?_
  refine s_whilep (fun m σ' => ∃ i, m + i = n ∧ i < n ∧ σ' = ⟨[("self", .cst (.ref x))], [], [], (x, stOb dx b order d I pos key i) :: rest⟩) ?_ (n - k * I) ⟨k * I, by walk_at "o", hkn, rfl⟩
  rintro m _ ⟨i, hmi, hi, rfl⟩
  have l1 := L.lim hi
  refine ⟨decide (pos i < limOf d) && decide ((pos (i + 1) : Int) < (limOf d : Int)), ?_, ?_, ?_⟩
  · unfold stOb itOb
    apply bp_and
    · apply bp_plain (hp := rfl)
      refine e_meth ?_ rfl rfl (by decide) rfl
      refine e_loc (.head _) rfl ?_
      refine mo_inst (by walk_at "mem") (kcls375 G) (kmeth375_valid G) (by exact nm375_valid) ⟨kkeep302 G, ?_⟩
      refine sw_nil ?_
      refine FnS.callP (valid_spec (dx := dx) (order := order) (cur := pos i) (ahead := pos (i + 1)) (turn := i / I) (held := key i) (vf := vaOf d (pos i)) G (.head _) (h'.mono fun p hp => .tail _ hp)) (by walk_at "o") ?_
      refine t_bool ⟨rfl, rfl⟩
    · intro hp
      walk_at "hp"
      apply bp_cmp (hm := rfl)
      refine e_attr ?_ rfl
      refine e_loc (.head _) rfl ?_
      refine a_inst (by walk_at "mem") (kcls375 G) (kfld375_ahead G) (by exact nd375) (by exact (mem_ix 3 rfl)) handed_int ?_
      refine e_attr ?_ rfl
      refine e_attr ?_ rfl
      refine e_loc (.head _) rfl ?_
      refine a_inst (by walk_at "mem") (kcls375 G) (kfld375_block G) (by exact nd375) (by exact (.head _)) handed_ref ?_
      refine a_inst (by walk_at "mem") (kcls263 G) (kfld263_limit G) (by exact nd263) (by exact (.tail _ (.tail _ (.head _)))) handed_int ?_
      refine c_lt ?_
      refine t_bool ⟨rfl, rfl⟩
  · intro hp
    simp only [Bool.and_eq_true, decide_eq_true_eq] at hp
    have hlt : i + 1 < n := by
      rcases Nat.lt_or_ge (i + 1) n with q | q
      · exact q
      · have : i + 1 = n := by walk_at "o"
        have := L.last
        simp_all
    refine ss_cons ?_
    refine s_exprn ?_ rfl
    refine e_meth ?_ rfl rfl (by decide) rfl
    refine e_loc (.head _) rfl ?_
    refine mo_inst (.head _) (kcls375 G) (kmeth375_parse G) (by exact nm375_parse) ⟨kkeep330 G, ?_⟩
    refine sw_nil ?_
    refine FnS.callP (parse_next G L h' hi) (by walk_at "o") ?_
    refine ⟨trivial, ?_⟩
    rw [if_pos hlt]
    refine ss_nil ?_
    exact ⟨m - 1, _, by walk_at "o", .refl _, i + 1, by walk_at "o", hlt, rfl⟩
  · intro hp
    have hlt : i = n - 1 := by
      rcases Nat.lt_or_ge (i + 1) n with q | q
      · have := L.lim q
        simp only [Bool.and_eq_false_imp, decide_eq_true_eq, decide_eq_false_iff_not] at hp
        have := hp l1
        (walk_at "o")
      · (walk_at "o")
    refine ss_nil ?_
    exact ⟨_, .refl _, rfl, by rw [hlt]⟩
end
section
variable {g : Gx} {x dx b bx order rs : Addr} {d held : List UInt8} {n I : Nat} {pos : Nat → Nat} {key val : Nat → List UInt8} {rest : Led}
theorem back_spec (G : GH g) (L : Lay d n I pos key val) (h : BlkIn b bx order rs d rest) {i : Nat} (hi : i < n) (h0 : 0 < i) :
    FnS g 5 372 [.cst (.ref x)] ((x, stOb dx b order d I pos key i) :: rest) (fun v led' => v = .none ∧ led' = (x, stOb dx b order d I pos key (i - 1)) :: rest) NoX := by
  have hI : 0 < I := L.I0
  have hB := L.ok
  obtain ⟨b1, b2, b3, b4⟩ := hB
  have htl := tabs_length d (cntOf d)
  have hnl := natsV_length (tabs d (cntOf d))
  have hd := Nat.div_mul_le_self i I
  have hdm := Nat.div_add_mod i I
  have hml := Nat.mod_lt i hI
  have hc : I * (i / I) = i / I * I := Nat.mul_comm ..
  have h' := h
  obtain ⟨h1, h2⟩ := h
  unfold blkOb at h1
  obtain ⟨k, hk⟩ : ∃ k, k = (i - 1) / I := ⟨_, rfl⟩
  have kd := Nat.div_mul_le_self (i - 1) I
  have kdm := Nat.div_add_mod (i - 1) I
  have kml := Nat.mod_lt (i - 1) hI
  rw [← hk] at kd kdm
  have kc : I * k = k * I := Nat.mul_comm ..
  have hkn : k * I < n := by walk_at "o"
  refine fnS (kfn372 G) loc372 noc372 clo372 rfl fun c hg hn he => ?_
  subst hg
  have F := kfn372 G
  show WSs c _ _ ⟨[("self", .cst (.ref x)), ("original", .unset), ("turn", .unset)], [], [], _⟩ _
  refine ss_cons ?_
  refine s_exprn ?_ rfl
  refine e_meth ?_ rfl rfl (by decide) rfl
  refine e_loc (.head _) rfl ?_
  refine mo_inst (.head _) (kcls375 G) (kmeth375_need G) (by exact nm375_need) ⟨kkeep295 G, ?_⟩
  refine sw_nil ?_
  refine FnS.callP (need_spec G (.head _) (h'.mono fun p hp => .tail _ hp) (L.lim hi)) (by walk_at "o") ?_
  refine ⟨trivial, ?_⟩
  unfold stOb itOb
  refine ss_cons ?_
  refine s_assign ?_ rfl
  refine e_attr ?_ rfl
  refine e_loc (.head _) rfl ?_
  refine a_inst (by walk_at "mem") (kcls375 G) (kfld375_current G) (by exact nd375) (by exact (.tail _ (.tail _ (.head _)))) handed_int ?_
  refine ⟨_, (.tail _ (.head _ _)), ?_⟩
  refine ss_cons ?_
  refine s_assign ?_ rfl
  refine e_attr ?_ rfl
  refine e_loc (.head _) rfl ?_
  refine a_inst (by walk_at "mem") (kcls375 G) (kfld375_turn G) (by exact nd375) (by exact (mem_ix 4 rfl)) handed_int ?_
  refine ⟨_, (.tail _ (.tail _ (.head _ _))), ?_⟩
  dsimp only
  have g1 : ∀ j, j < cntOf d → (tabs d (cntOf d)).getD ((j : Int)).toNat 0 = tabOf d j := fun j hj => by rw [toNat_cast]; exact tabs_getD hj
  have hiI : i / I = k ∨ (i / I = k + 1 ∧ (k + 1) * I = i) := by
    have s1 : (k + 1) * I = k * I + I := Nat.succ_mul ..
    rcases Nat.lt_trichotomy (i / I) (k + 1) with q | q | q
    · left
      rcases Nat.lt_or_ge (i / I) k with r | r
      · exfalso
        have := Nat.mul_le_mul_right I (show i / I + 1 ≤ k by walk_at "o")
        rw [Nat.succ_mul] at this
        (walk_at "o")
      · (walk_at "o")
    · right
      refine ⟨q, ?_⟩
      rw [q] at hd
      (walk_at "o")
    · exfalso
      have := Nat.mul_le_mul_right I (show k + 2 ≤ i / I by walk_at "o")
      have s2 : (k + 2) * I = k * I + 2 * I := by rw [Nat.add_mul]
      (walk_at "o")
  refine ss_cut (fun σ' => σ' = ⟨[("self", .cst (.ref x)), ("original", .int (pos i : Nat)), ("turn", .int k)], [], [], (x, stOb dx b order d I pos key i) :: rest⟩) ?_ ?_
  · refine s_whilep (fun m σ' => ∃ j, m + k = j ∧ (j = k ∨ (j = k + 1 ∧ (k + 1) * I = i)) ∧ σ' = ⟨[("self", .cst (.ref x)), ("original", .int (pos i : Nat)), ("turn", .int j)], [], [], (x, stOb dx b order d I pos key i) :: rest⟩) ?_ (i / I - k) ⟨i / I, by walk_at "o", hiI, rfl⟩
    rintro m _ ⟨j, hj, hjk, rfl⟩
    unfold stOb itOb
    have hjn : j * I < n := by
      rcases hjk with rfl | ⟨rfl, q⟩
      · exact hkn
      · (walk_at "o")
    have hjc : j < cntOf d := L.cntLt.mpr hjn
    have tj := L.tab j hjn
    refine ⟨decide ((pos i : Int) ≤ (((tabs d (cntOf d)).getD ((j : Int)).toNat 0 : Nat) : Int)), ?_, ?_, ?_⟩
    · apply bp_cmp (hm := rfl)
      refine e_sub ?_
      refine e_attr ?_ rfl
      refine e_attr ?_ rfl
      refine e_loc (.head _) rfl ?_
      refine a_inst (by walk_at "mem") (kcls375 G) (kfld375_block G) (by exact nd375) (by exact (.head _)) handed_ref ?_
      refine a_inst (by walk_at "mem") (kcls263 G) (kfld263_restarts G) (by exact nd263) (by exact (mem_ix 3 rfl)) handed_ref ?_
      refine e_loc (.tail _ (.tail _ (.head _))) rfl ?_
      refine so_list (by walk_at "mem") (by walk_at "sc") (by walk_at "sc") (by walk_at "item") ?_
      refine e_loc (.tail _ (.head _)) rfl ?_
      refine c_ge ?_
      refine t_bool ⟨rfl, rfl⟩
    · intro hp
      have hp := of_decide_eq_true hp
      rw [g1 j hjc, tj] at hp
      have hjk1 : j = k + 1 := by
        rcases hjk with rfl | ⟨q, _⟩
        · exfalso
          have := L.strict (show j * I < i by walk_at "o") (by walk_at "o")
          (walk_at "o")
        · exact q
      refine ss_cons ?_
      apply s_ifp
      · apply bp_cmp (hm := rfl)
        refine e_loc (.tail _ (.tail _ (.head _))) rfl ?_
        refine e_int ?_
        refine c_eq ?_
        refine t_bool ⟨rfl, rfl⟩
      · intro hq
        exfalso
        have hq := of_decide_eq_true hq
        (walk_at "o")
      · intro _
        refine ss_nil ?_
        refine ss_cons ?_
        refine s_aug (.tail _ (.tail _ (.head _))) rfl ?_
        refine e_int ?_
        refine io_sub ?_
        refine ⟨_, (.tail _ (.tail _ (.head _ _))), ?_⟩
        refine ss_nil ?_
        refine ⟨m - 1, _, by walk_at "o", .refl _, k, by walk_at "o", .inl rfl, ?_⟩
        rw [show (j : Int) - 1 = (k : Int) by walk_at "o"]
    · intro hp
      have hp := of_decide_eq_false hp
      rw [g1 j hjc, tj] at hp
      have hjk1 : j = k := by
        rcases hjk with q | ⟨rfl, q⟩
        · exact q
        · exfalso
          rw [q] at hp
          (walk_at "o")
      exact ⟨rfl, by rw [hjk1]⟩
  · rintro _ rfl
    refine ss_cons ?_
    refine s_exprn ?_ rfl
    refine e_meth ?_ rfl rfl (by decide) rfl
    refine e_loc (.head _) rfl ?_
    refine mo_inst (.head _) (kcls375 G) (kmeth375_go_restart G) (by exact nm375_go_restart) ⟨kkeep323 G, ?_⟩
    refine sw_cons ?_
    refine e_loc (.tail _ (.tail _ (.head _))) rfl ?_
    refine sw_nil ?_
    refine FnS.callP (go_restart_spec G h' L.ok k (L.cntLt.mpr hkn)) (by walk_at "o") ?_
    refine ⟨trivial, ?_⟩
    rw [L.tab k hkn]
    refine ss_cons ?_
    refine s_exprn ?_ rfl
    refine e_meth ?_ rfl rfl (by decide) rfl
    refine e_loc (.head _) rfl ?_
    refine mo_inst (.head _) (kcls375 G) (kmeth375_parse G) (by exact nm375_parse) ⟨kkeep330 G, ?_⟩
    refine sw_nil ?_
    refine FnS.callP (parse_to G L h' (i := k * I) hkn (by rw [Nat.mul_div_cancel _ hI]; exact Nat.le_refl _) (.inl (Nat.mul_mod_left ..)) (Nat.zero_le _)) (by walk_at "o") ?_
    refine ⟨trivial, ?_⟩
    refine ss_cons ?_
    refine s_whilep (fun m σ' => ∃ j, m + j = i ∧ j < i ∧ σ' = ⟨[("self", .cst (.ref x)), ("original", .int (pos i : Nat)), ("turn", .int k)], [], [], (x, stOb dx b order d I pos key j) :: rest⟩) ?_ (i - k * I) ⟨k * I, by walk_at "o", by walk_at "o", rfl⟩
    rintro m _ ⟨j, hmj, hj, rfl⟩
    have l1 := L.lim (show j < n by walk_at "o")
    refine ⟨decide (pos j < limOf d) && decide ((pos (j + 1) : Int) < (pos i : Int)), ?_, ?_, ?_⟩
    · unfold stOb itOb
      apply bp_and
      · apply bp_plain (hp := rfl)
        refine e_meth ?_ rfl rfl (by decide) rfl
        refine e_loc (.head _) rfl ?_
        refine mo_inst (by walk_at "mem") (kcls375 G) (kmeth375_valid G) (by exact nm375_valid) ⟨kkeep302 G, ?_⟩
        refine sw_nil ?_
        refine FnS.callP (valid_spec (dx := dx) (order := order) (cur := pos j) (ahead := pos (j + 1)) (turn := j / I) (held := key j) (vf := vaOf d (pos j)) G (.head _) (h'.mono fun p hp => .tail _ hp)) (by walk_at "o") ?_
        refine t_bool ⟨rfl, rfl⟩
      · intro hp
        walk_at "hp"
        apply bp_cmp (hm := rfl)
        refine e_attr ?_ rfl
        refine e_loc (.head _) rfl ?_
        refine a_inst (by walk_at "mem") (kcls375 G) (kfld375_ahead G) (by exact nd375) (by exact (mem_ix 3 rfl)) handed_int ?_
        refine e_loc (.tail _ (.head _)) rfl ?_
        refine c_lt ?_
        refine t_bool ⟨rfl, rfl⟩
    · intro hp
      simp only [Bool.and_eq_true, decide_eq_true_eq] at hp
      have hlt : j + 1 < i := by
        rcases Nat.lt_or_ge (j + 1) i with q | q
        · exact q
        · exfalso
          rw [show j + 1 = i by walk_at "o"] at hp
          (walk_at "o")
      refine ss_cons ?_
      refine s_exprn ?_ rfl
      refine e_meth ?_ rfl rfl (by decide) rfl
      refine e_loc (.head _) rfl ?_
      refine mo_inst (.head _) (kcls375 G) (kmeth375_parse G) (by exact nm375_parse) ⟨kkeep330 G, ?_⟩
      refine sw_nil ?_
      refine FnS.callP (parse_next G L h' (i := j) (by walk_at "o")) (by walk_at "o") ?_
      refine ⟨trivial, ?_⟩
      rw [if_pos (show j + 1 < n by walk_at "o")]
      refine ss_nil ?_
      exact ⟨m - 1, _, by walk_at "o", .refl _, j + 1, by walk_at "o", hlt, rfl⟩
    · intro hp
      have hlt : j = i - 1 := by
        rcases Nat.lt_or_ge (j + 1) i with q | q
        · exfalso
          have := L.strict q (by walk_at "o")
          simp only [Bool.and_eq_false_imp, decide_eq_true_eq, decide_eq_false_iff_not] at hp
          have := hp l1
          (walk_at "o")
        · (walk_at "o")
      refine ss_nil ?_
      exact ⟨_, .refl _, rfl, by rw [hlt]; rfl⟩
end
section
variable {c : Fx} {E : Value → Shared → Prop} {σ : St}
theorem ss_cutr {st : Stmt} {rest : List Stmt} {Q : Fl → St → Prop} (P : St → Prop) (h : WS c E st σ (fun fl σ' => match fl with | .next => P σ' | fl => Q fl σ')) (k : ∀ σ', P σ' → WSs c E rest σ' Q) : WSs c E (st :: rest) σ Q :=
  ss_cons (FW.mono h fun fl σ' q => by cases fl <;> first | exact k σ' q | exact q)
theorem s_try0 {body : List Stmt} {handlers : List ExceptHandler} {orelse : List Stmt} {pos : Pos} {Q : Fl → St → Prop}
    (h : WSs c (fun _ _ => False) body σ (fun fl σ' => match fl with | .next => WSs c E orelse σ' Q | fl => Q fl σ')) : WS c E (.Try body handlers orelse [] pos) σ Q := fun s R => by
  rw [arm_exec_Try]
  refine wpS_bind (wpS_standAt ?_)
  unfold tryStmt
  dsimp only [List.isEmpty_nil]
  rw [if_pos rfl]
  refine wpS_bind (wpS_attempt (wpS_mono (h s R) (fun f s' zq => ?_) fun _ _ z => z.elim))
  obtain ⟨fl, σ', R', hf, q⟩ := zq
  cases fl with
  | next => cases hf; exact q s' R'
  | brk => cases hf; exact wpS_pure (⟨.brk, σ', R', rfl, q⟩)
  | cont => cases hf; exact wpS_pure (⟨.cont, σ', R', rfl, q⟩)
  | ret v => obtain ⟨u, rfl, hu⟩ := hf; exact wpS_pure (⟨.ret v, σ', R', ⟨u, rfl, hu⟩, q⟩)
end
structure Tgt (n : Nat) (key : Nat → List UInt8) (internal : Bool) (target : List UInt8) (p : Nat) : Prop where
  le : p ≤ n
  lo : ∀ i, i < p → kcmp internal (key i) target < 0
  hi : ∀ i, p ≤ i → i < n → 0 ≤ kcmp internal (key i) target
  eq : ∀ i, i < n → kcmp internal (key i) target = 0 → i = p
  kt : KeyOk internal target
  kk : ∀ i, i < n → KeyOk internal (key i)
section
variable {g : Gx} {x dx b bx order rs : Addr} {d held : List UInt8} {n I : Nat} {pos : Nat → Nat} {key val : Nat → List UInt8} {rest : Led} {internal : Bool} {target : List UInt8} {p : Nat}
noncomputable def Cond (n I p cnt : Nat) (l r : Nat) : Prop := l ≤ r ∧ r < cnt ∧ (l = 0 ∨ l * I < p) ∧ ∀ k, r < k → k < cnt → p ≤ k * I
end
namespace narrow_spec
noncomputable def Stm (g : Gx) (x dx b bx order rs : Addr) (d held : List UInt8) (n I : Nat) (pos : Nat → Nat) (key val : Nat → List UInt8) (rest : Led) (internal : Bool) (target : List UInt8) (p cur ahead turn vf : Nat) : Prop := ∀ (G : GH g) (L : Lay d n I pos key val) (T : Tgt n key internal target p) (h : BlkIn b bx order rs d rest) (hO : OrdIn order internal rest) (S : (∃ i, i < n ∧ cur = pos i ∧ ahead = pos (i + 1) ∧ turn = i / I ∧ held = key i ∧ vf = vaOf d (pos i)) ∨ cur = limOf d) (hh : held.length ≤ 1000000), FnS g 5 358 [.cst (.ref x), .bytes target] ((x, itOb dx b order cur ahead turn held vf) :: rest) (fun v led' => v = .none ∧ ∃ t vf, led' = (x, if p < n then stOb dx b order d I pos key p else loOb dx b order d t vf) :: rest) NoX
noncomputable def tt0 : Gx × Addr × Addr × Addr × Addr × Addr × Addr × (List UInt8) × (List UInt8) × Nat × Nat × (Nat → Nat) × (Nat → List UInt8) × (Nat → List UInt8) × Led × Bool × (List UInt8) × Nat × Nat × Nat × Nat × Nat := (gx0, 0, 0, 0, 0, 0, 0, [], [], 0, 0, fun _ => 0, fun _ => [], fun _ => [], [], false, [], 0, 0, 0, 0, 0)
noncomputable def Stq (q : Gx × Addr × Addr × Addr × Addr × Addr × Addr × (List UInt8) × (List UInt8) × Nat × Nat × (Nat → Nat) × (Nat → List UInt8) × (Nat → List UInt8) × Led × Bool × (List UInt8) × Nat × Nat × Nat × Nat × Nat) : Prop := Stm (q.1) (q.2.1) (q.2.2.1) (q.2.2.2.1) (q.2.2.2.2.1) (q.2.2.2.2.2.1) (q.2.2.2.2.2.2.1) (q.2.2.2.2.2.2.2.1) (q.2.2.2.2.2.2.2.2.1) (q.2.2.2.2.2.2.2.2.2.1) (q.2.2.2.2.2.2.2.2.2.2.1) (q.2.2.2.2.2.2.2.2.2.2.2.1) (q.2.2.2.2.2.2.2.2.2.2.2.2.1) (q.2.2.2.2.2.2.2.2.2.2.2.2.2.1) (q.2.2.2.2.2.2.2.2.2.2.2.2.2.2.1) (q.2.2.2.2.2.2.2.2.2.2.2.2.2.2.2.1) (q.2.2.2.2.2.2.2.2.2.2.2.2.2.2.2.2.1) (q.2.2.2.2.2.2.2.2.2.2.2.2.2.2.2.2.2.1) (q.2.2.2.2.2.2.2.2.2.2.2.2.2.2.2.2.2.2.1) (q.2.2.2.2.2.2.2.2.2.2.2.2.2.2.2.2.2.2.2.1) (q.2.2.2.2.2.2.2.2.2.2.2.2.2.2.2.2.2.2.2.2.1) (q.2.2.2.2.2.2.2.2.2.2.2.2.2.2.2.2.2.2.2.2.2)
noncomputable def pp0 : Gx × Addr × Addr × Addr × Addr × Addr × Addr × (List UInt8) × (List UInt8) × Nat × Nat × (Nat → Nat) × (Nat → List UInt8) × (Nat → List UInt8) × Led × Bool × (List UInt8) × Nat × Nat × Nat × Nat × Nat := eps0 tt0 Stq
@[irreducible] noncomputable def g : Gx := pp0.1
@[irreducible] noncomputable def x : Addr := pp0.2.1
@[irreducible] noncomputable def dx : Addr := pp0.2.2.1
@[irreducible] noncomputable def b : Addr := pp0.2.2.2.1
@[irreducible] noncomputable def bx : Addr := pp0.2.2.2.2.1
@[irreducible] noncomputable def order : Addr := pp0.2.2.2.2.2.1
noncomputable def pp6 : Addr × (List UInt8) × (List UInt8) × Nat × Nat × (Nat → Nat) × (Nat → List UInt8) × (Nat → List UInt8) × Led × Bool × (List UInt8) × Nat × Nat × Nat × Nat × Nat := pp0.2.2.2.2.2.2
@[irreducible] noncomputable def rs : Addr := pp6.1
@[irreducible] noncomputable def d : List UInt8 := pp6.2.1
@[irreducible] noncomputable def held : List UInt8 := pp6.2.2.1
@[irreducible] noncomputable def n : Nat := pp6.2.2.2.1
@[irreducible] noncomputable def I : Nat := pp6.2.2.2.2.1
@[irreducible] noncomputable def pos : Nat → Nat := pp6.2.2.2.2.2.1
noncomputable def pp12 : (Nat → List UInt8) × (Nat → List UInt8) × Led × Bool × (List UInt8) × Nat × Nat × Nat × Nat × Nat := pp6.2.2.2.2.2.2
@[irreducible] noncomputable def key : Nat → List UInt8 := pp12.1
@[irreducible] noncomputable def val : Nat → List UInt8 := pp12.2.1
@[irreducible] noncomputable def rest : Led := pp12.2.2.1
@[irreducible] noncomputable def internal : Bool := pp12.2.2.2.1
@[irreducible] noncomputable def target : List UInt8 := pp12.2.2.2.2.1
@[irreducible] noncomputable def p : Nat := pp12.2.2.2.2.2.1
noncomputable def pp18 : Nat × Nat × Nat × Nat := pp12.2.2.2.2.2.2
@[irreducible] noncomputable def cur : Nat := pp18.1
@[irreducible] noncomputable def ahead : Nat := pp18.2.1
@[irreducible] noncomputable def turn : Nat := pp18.2.2.1
@[irreducible] noncomputable def vf : Nat := pp18.2.2.2
theorem zz0 : Stm g x dx b bx order rs d held n I pos key val rest internal target p cur ahead turn vf := by
  intro G L T h hO S hh
  have hI : 0 < I := L.I0
  have hn0 := L.n0
  have hB := L.ok
  obtain ⟨b1, b2, b3, b4⟩ := hB
  have htl := tabs_length d (cntOf d)
  have hnl := natsV_length (tabs d (cntOf d))
  have h' := h
  obtain ⟨h1, h2⟩ := h
  unfold blkOb at h1
  refine fnS (kfn358 G) loc358 noc358 clo358 rfl fun c hg hn he => ?_
  have G : GH c.g := by rw [hg]; exact G
  have F := kfn358 G
  show WSs c _ _ ⟨[("self", .cst (.ref x)), ("target", .bytes target), ("left", .unset), ("right", .unset), ("side", .unset), ("standing", .unset), ("middle", .unset), ("found", .unset)], [], [], _⟩ _
  unfold itOb
  refine ss_cons ?_
  refine s_assign ?_ rfl
  refine e_int ?_
  refine ⟨_, (.tail _ (.tail _ (.head _ _))), ?_⟩
  refine ss_cons ?_
  refine s_assign ?_ rfl
  refine e_bin ?_
  refine e_call ?_ rfl rfl
  refine e_gl F he g358_len (has_len G) ?_
  refine ⟨_, rfl, keep_builtin, ?_⟩
  refine sw_cons ?_
  refine e_attr ?_ rfl
  refine e_attr ?_ rfl
  refine e_loc (.head _) rfl ?_
  refine a_inst (by walk_at "mem") (kcls375 G) (kfld375_block G) (by exact nd375) (by exact (.head _)) handed_ref ?_
  refine a_inst (by walk_at "mem") (kcls263 G) (kfld263_restarts G) (by exact nd263) (by exact (mem_ix 3 rfl)) handed_ref ?_
  refine sw_nil ?_
  refine call_lenL (by walk_at "mem") (by walk_at "sc") ?_
  refine e_int ?_
  refine o_sub ?_
  refine ⟨_, (.tail _ (.tail _ (.tail _ (.head _ _)))), ?_⟩
  refine ss_cons ?_
  refine s_assign ?_ rfl
  refine e_int ?_
  refine ⟨_, (.tail _ (.tail _ (.tail _ (.tail _ (.head _ _))))), ?_⟩
  refine ss_cons ?_
  refine s_assign ?_ rfl
  refine e_meth ?_ rfl rfl (by decide) rfl
  refine e_loc (.head _) rfl ?_
  refine mo_inst (by walk_at "mem") (kcls375 G) (kmeth375_valid G) (by exact nm375_valid) ⟨kkeep302 G, ?_⟩
  refine sw_nil ?_
  refine FnS.callP (valid_spec (dx := dx) (order := order) (cur := cur) (ahead := ahead) (turn := turn) (held := held) (vf := vf) G (.head _) (h'.mono fun p hp => .tail _ hp)) (by walk_at "o") ?_
  refine ⟨_, (.tail _ (.tail _ (.tail _ (.tail _ (.tail _ (.head _ _)))))), ?_⟩
  dsimp only
  have e1 : ((natsV (tabs d (cntOf d))).length : Int) - 1 = ((cntOf d - 1 : Nat) : Int) := by walk_at "o"
  rw [e1]
  refine ss_cutr (fun σ' => ∃ (l r : Nat) (s : Int), Cond n I p (cntOf d) l r ∧ (cur < limOf d → s < 0 → ∃ i, i < p ∧ i < n ∧ cur = pos i ∧ ahead = pos (i + 1) ∧ turn = i / I ∧ held = key i) ∧
    σ' = ⟨[("self", .cst (.ref x)), ("target", .bytes target), ("left", .int l), ("right", .int r), ("side", .int s), ("standing", .bool (decide (cur < limOf d))), ("middle", .unset), ("found", .unset)], [], [], (x, itOb dx b order cur ahead turn held vf) :: rest⟩) ?_ ?_
  · apply s_ifp
    · apply bp_plain (hp := rfl)
      refine e_loc (mem_ix 5 rfl) rfl ?_
      refine t_bool ⟨rfl, rfl⟩
    · intro hp
      have hp := of_decide_eq_true hp
      obtain ⟨i, hi, ec, ea, et, eh, ev⟩ : ∃ i, i < n ∧ cur = pos i ∧ ahead = pos (i + 1) ∧ turn = i / I ∧ held = key i ∧ vf = vaOf d (pos i) := by
        rcases S with S | S
        · exact S
        · (walk_at "o")
      have hk := T.kk i hi
      rw [← eh] at hk
      have ht := T.kt
      refine ss_cons ?_
      refine s_assign ?_ rfl
      refine e_meth ?_ rfl rfl (by decide) rfl
      refine e_attr ?_ rfl
      refine e_loc (.head _) rfl ?_
      refine a_inst (by walk_at "mem") (kcls375 G) (kfld375_order G) (by exact nd375) (by exact (.tail _ (.head _))) handed_ref ?_
      refine mo_order G (by walk_at "o") (by walk_at "ord") fun f hkf hc => ⟨hkf, ?_⟩
      refine sw_cons ?_
      refine e_attr ?_ rfl
      refine e_loc (.head _) rfl ?_
      refine a_inst (by walk_at "mem") (kcls375 G) (kfld375_held_key G) (by exact nd375) (by exact (mem_ix 5 rfl)) handed_bytes ?_
      refine sw_cons ?_
      refine e_loc (.tail _ (.head _)) rfl ?_
      refine sw_nil ?_
      refine hc _ _ _ _ (by walk_at "ord") hk ht ?_
      refine ⟨_, (.tail _ (.tail _ (.tail _ (.tail _ (.head _ _))))), ?_⟩
      dsimp only
      refine ss_cons ?_
      apply s_ifp
      · apply bp_cmp (hm := rfl)
        refine e_loc (mem_ix 4 rfl) rfl ?_
        refine e_int ?_
        refine c_eq ?_
        refine t_bool ⟨rfl, rfl⟩
      · intro hq
        have hq := of_decide_eq_true hq
        refine ss_cons ?_
        refine s_ret0 ?_
        have := T.eq i hi (by rw [← eh]; exact hq)
        subst this
        refine ⟨_, .refl _, rfl, 0, 0, ?_⟩
        rw [if_pos hi, ec, ea, et, eh, ev]
        rfl
      · intro hq
        have hq := of_decide_eq_false hq
        refine ss_nil ?_
        have hdi : i / I < cntOf d := L.cntLt.mpr (Nat.lt_of_le_of_lt (Nat.div_mul_le_self i I) hi)
        refine ss_cons ?_
        apply s_ifp
        · apply bp_cmp (hm := rfl)
          refine e_loc (mem_ix 4 rfl) rfl ?_
          refine e_int ?_
          refine c_lt ?_
          refine t_bool ⟨rfl, rfl⟩
        · intro hr
          have hr := of_decide_eq_true hr
          refine ss_cons ?_
          refine s_assign ?_ rfl
          refine e_attr ?_ rfl
          refine e_loc (.head _) rfl ?_
          refine a_inst (by walk_at "mem") (kcls375 G) (kfld375_turn G) (by exact nd375) (by exact (mem_ix 4 rfl)) handed_int ?_
          refine ⟨_, (.tail _ (.tail _ (.head _ _))), ?_⟩
          refine ss_nil ?_
          refine ss_nil ?_
          have hip : i < p := by
            rcases Nat.lt_or_ge i p with q | q
            · exact q
            · have := T.hi i q hi
              rw [← eh] at this; (walk_at "o")
          refine ⟨turn, cntOf d - 1, _, ⟨by walk_at "o", by walk_at "o", .inr ?_, fun k hk1 hk2 => by walk_at "o"⟩, fun _ _ => ⟨i, hip, hi, ec, ea, et, eh⟩, rfl⟩
          rw [et]
          exact Nat.lt_of_le_of_lt (Nat.div_mul_le_self i I) hip
        · intro hr
          have hr := of_decide_eq_false hr
          refine ss_cons ?_
          refine s_assign ?_ rfl
          refine e_attr ?_ rfl
          refine e_loc (.head _) rfl ?_
          refine a_inst (by walk_at "mem") (kcls375 G) (kfld375_turn G) (by exact nd375) (by exact (mem_ix 4 rfl)) handed_int ?_
          refine ⟨_, (.tail _ (.tail _ (.tail _ (.head _ _)))), ?_⟩
          refine ss_nil ?_
          refine ss_nil ?_
          have hip : p ≤ i := by
            rcases Nat.lt_or_ge i p with q | q
            · have := T.lo i q
              rw [← eh] at this; (walk_at "o")
            · exact q
          refine ⟨0, turn, _, ⟨Nat.zero_le _, by walk_at "o", .inl rfl, fun k hk1 hk2 => ?_⟩, fun _ hs => absurd hs hr, rfl⟩
          rw [et] at hk1
          have := Nat.lt_mul_of_div_lt hk1 hI
          (walk_at "o")
    · intro hp
      have hp := of_decide_eq_false hp
      refine ss_nil ?_
      exact ⟨0, cntOf d - 1, 0, ⟨Nat.zero_le _, by walk_at "o", .inl rfl, fun k hk1 hk2 => by walk_at "o"⟩, fun hc => absurd hc hp, rfl⟩
  · rintro _ ⟨l, r, s, hcond, hst, rfl⟩
    refine ss_cut (fun σ' => ∃ (l : Nat) (m f : V), Cond n I p (cntOf d) l l ∧
      σ' = ⟨[("self", .cst (.ref x)), ("target", .bytes target), ("left", .int l), ("right", .int l), ("side", .int s), ("standing", .bool (decide (cur < limOf d))), ("middle", m), ("found", f)], [], [], (x, itOb dx b order cur ahead turn held vf) :: rest⟩) ?_ ?_
    · refine s_whilep (fun k σ' => ∃ (l r : Nat) (m f : V), k = r - l ∧ Cond n I p (cntOf d) l r ∧
        σ' = ⟨[("self", .cst (.ref x)), ("target", .bytes target), ("left", .int l), ("right", .int r), ("side", .int s), ("standing", .bool (decide (cur < limOf d))), ("middle", m), ("found", f)], [], [], (x, itOb dx b order cur ahead turn held vf) :: rest⟩) ?_ (r - l) ⟨l, r, _, _, rfl, hcond, rfl⟩
      rintro k _ ⟨l, r, m, f, hk, hcd, rfl⟩
      obtain ⟨c1, c2, c3, c4⟩ := hcd
      refine ⟨decide ((l : Int) < (r : Int)), ?_, ?_, ?_⟩
      · apply bp_cmp (hm := rfl)
        refine e_loc (.tail _ (.tail _ (.head _))) rfl ?_
        refine e_loc (mem_ix 3 rfl) rfl ?_
        refine c_lt ?_
        refine t_bool ⟨rfl, rfl⟩
      · intro hp
        have hp := of_decide_eq_true hp
        obtain ⟨mid, hmid⟩ : ∃ mid, mid = (l + r + 1) / 2 := ⟨_, rfl⟩
        have em : ((l : Int) + r + 1) / 2 = (mid : Int) := by walk_at "o"
        have hmc : mid < cntOf d := by walk_at "o"
        have hmn := L.cntLt.mp hmc
        have tm := L.tab mid hmn
        have s0 : shOf d (tabOf d mid) = 0 := by rw [tm]; exact L.sh0 _ hmn (Nat.mul_mod_left ..)
        have ent : EntOk d (tabOf d mid) := by rw [tm]; exact L.ent _ hmn
        have ek : keyAt d (tabOf d mid) = key (mid * I) := by rw [tm]; exact (L.key0 _ hmn (Nat.mul_mod_left ..)).symm
        have hkk := T.kk _ hmn
        have hkt := T.kt
        unfold itOb
        refine ss_cons ?_
        refine s_assign ?_ rfl
        refine e_bin ?_
        refine e_bin ?_
        refine e_bin ?_
        refine e_loc (.tail _ (.tail _ (.head _))) rfl ?_
        refine e_loc (mem_ix 3 rfl) rfl ?_
        refine o_add ?_
        refine e_int ?_
        refine o_add ?_
        refine e_int ?_
        refine o_div (by walk_at "sc") (by walk_at "sc") ?_
        refine ⟨_, (.tail _ (.tail _ (.tail _ (.tail _ (.tail _ (.tail _ (.head _ _))))))), ?_⟩
        rw [em]
        refine ss_cons ?_
        refine s_assign ?_ rfl
        refine e_meth ?_ rfl rfl (by decide) rfl
        refine e_attr ?_ rfl
        refine e_loc (.head _) rfl ?_
        refine a_inst (by walk_at "mem") (kcls375 G) (kfld375_block G) (by exact nd375) (by exact (.head _)) handed_ref ?_
        refine mo_inst (by walk_at "mem") (kcls263 G) (kmeth263_restart_key G) (by exact nm263_restart_key) ⟨kkeep260 G, ?_⟩
        refine sw_cons ?_
        refine e_loc (mem_ix 6 rfl) rfl ?_
        refine sw_nil ?_
        refine FnS.callP (restart_key_spec G L.ok (h'.mono fun p hp => .tail _ hp) mid hmc ent s0) (by walk_at "o") ?_
        refine ⟨_, (.tail _ (.tail _ (.tail _ (.tail _ (.tail _ (.tail _ (.tail _ (.head _ _)))))))), ?_⟩
        rw [ek]
        dsimp only
        refine ss_cons ?_
        apply s_ifp
        · apply bp_cmp (hm := rfl)
          refine e_meth ?_ rfl rfl (by decide) rfl
          refine e_attr ?_ rfl
          refine e_loc (.head _) rfl ?_
          refine a_inst (by walk_at "mem") (kcls375 G) (kfld375_order G) (by exact nd375) (by exact (.tail _ (.head _))) handed_ref ?_
          refine mo_order G (by walk_at "o") (by walk_at "ord") fun f hkf hc => ⟨hkf, ?_⟩
          refine sw_cons ?_
          refine e_loc (mem_ix 7 rfl) rfl ?_
          refine sw_cons ?_
          refine e_loc (.tail _ (.head _)) rfl ?_
          refine sw_nil ?_
          refine hc _ _ _ _ (by walk_at "ord") hkk hkt ?_
          refine e_int ?_
          refine c_lt ?_
          refine t_bool ⟨rfl, rfl⟩
        · intro hq
          have hq := of_decide_eq_true hq
          refine ss_cons ?_
          refine s_assign ?_ rfl
          refine e_loc (mem_ix 6 rfl) rfl ?_
          refine ⟨_, (.tail _ (.tail _ (.head _ _))), ?_⟩
          refine ss_nil ?_
          refine ss_nil ?_
          have hmp : mid * I < p := by
            rcases Nat.lt_or_ge (mid * I) p with q | q
            · exact q
            · have := T.hi _ q hmn
              (walk_at "o")
          exact ⟨r - mid, _, by walk_at "o", .refl _, mid, r, _, _, rfl, ⟨by walk_at "o", c2, .inr hmp, c4⟩, rfl⟩
        · intro hq
          have hq := of_decide_eq_false hq
          refine ss_cons ?_
          refine s_assign ?_ rfl
          refine e_bin ?_
          refine e_loc (mem_ix 6 rfl) rfl ?_
          refine e_int ?_
          refine o_sub ?_
          refine ⟨_, (.tail _ (.tail _ (.tail _ (.head _ _)))), ?_⟩
          refine ss_nil ?_
          refine ss_nil ?_
          have hmp : p ≤ mid * I := by
            rcases Nat.lt_or_ge (mid * I) p with q | q
            · have := T.lo _ q
              (walk_at "o")
            · exact q
          rw [show (mid : Int) - 1 = ((mid - 1 : Nat) : Int) by walk_at "o"]
          refine ⟨mid - 1 - l, _, by walk_at "o", .refl _, l, mid - 1, _, _, rfl, ⟨by walk_at "o", by walk_at "o", c3, fun j hj1 hj2 => ?_⟩, rfl⟩
          have : mid * I ≤ j * I := Nat.mul_le_mul_right _ (by walk_at "o")
          (walk_at "o")
      · intro hp
        have hp := of_decide_eq_false hp
        have : r = l := by walk_at "o"
        subst this
        exact ⟨rfl, r, m, f, ⟨c1, c2, c3, c4⟩, rfl⟩
    · rintro _ ⟨l, m, f, hcd, rfl⟩
      obtain ⟨-, c2, c3, c4⟩ := hcd
      have hln := L.cntLt.mp c2
      have hpl : p ≤ (l + 1) * I := by
        rcases Nat.lt_or_ge (l + 1) (cntOf d) with q | q
        · exact c4 _ (by walk_at "o") q
        · rcases Nat.lt_or_ge ((l + 1) * I) n with r | r
          · exact absurd (L.cntLt.mpr r) (by walk_at "o")
          · have := T.le; (walk_at "o")
      have hal : l * I ≤ p := by
        rcases c3 with rfl | q
        · rw [Nat.zero_mul]; exact Nat.zero_le _
        · (walk_at "o")
      have tl := L.tab l hln
      refine ss_cut (fun σ' => ∃ (a cu t : Nat) (hd : List UInt8) (vf : Nat), a ≤ p ∧ (a < n → t ≤ a / I) ∧ (a % I = 0 ∨ hd = key (a - 1)) ∧ hd.length ≤ 1000000 ∧
        σ' = ⟨[("self", .cst (.ref x)), ("target", .bytes target), ("left", .int l), ("right", .int l), ("side", .int s), ("standing", .bool (decide (cur < limOf d))), ("middle", m), ("found", f)], [], [], (x, itOb dx b order cu (pos a) t hd vf) :: rest⟩) ?_ ?_
      · unfold itOb
        apply s_ifp
        · apply bp_not
          apply bp_and3
          · apply bp_plain (hp := rfl)
            refine e_loc (mem_ix 5 rfl) rfl ?_
            refine t_bool ⟨rfl, rfl⟩
          · intro hp
            walk_at "hp"
            apply bp_cmp (hm := rfl)
            refine e_loc (mem_ix 4 rfl) rfl ?_
            refine e_int ?_
            refine c_lt ?_
            refine t_bool ⟨rfl, rfl⟩
          · intro hp hq
            walk_at "hp"
            apply bp_cmp (hm := rfl)
            refine e_loc (.tail _ (.tail _ (.head _))) rfl ?_
            refine e_attr ?_ rfl
            refine e_loc (.head _) rfl ?_
            refine a_inst (by walk_at "mem") (kcls375 G) (kfld375_turn G) (by exact nd375) (by exact (mem_ix 4 rfl)) handed_int ?_
            refine c_eq ?_
            refine t_bool ⟨rfl, rfl⟩
        · intro hp
          refine ss_cons ?_
          refine s_exprn ?_ rfl
          refine e_meth ?_ rfl rfl (by decide) rfl
          refine e_loc (.head _) rfl ?_
          refine mo_inst (.head _) (kcls375 G) (kmeth375_go_restart G) (by exact nm375_go_restart) ⟨kkeep323 G, ?_⟩
          refine sw_cons ?_
          refine e_loc (.tail _ (.tail _ (.head _))) rfl ?_
          refine sw_nil ?_
          refine FnS.callP (go_restart_spec (dx := dx) (cur := cur) (ahead := ahead) (turn := turn) (held := held) (vf := vf) G h' L.ok l c2) (by walk_at "o") ?_
          refine ⟨trivial, ?_⟩
          refine ss_nil ?_
          rw [tl]
          exact ⟨rfl, l * I, _, l, [], vf, hal, fun _ => by rw [Nat.mul_div_cancel _ hI]; exact Nat.le_refl _, .inl (Nat.mul_mod_left ..), Nat.zero_le _, rfl⟩
        · intro hp
          refine ss_nil ?_
          simp only [Bool.not_eq_false', Bool.and_eq_true, decide_eq_true_eq] at hp
          obtain ⟨i, hip, hi, ec, ea, et, eh⟩ := hst hp.1 hp.2.1
          refine ⟨rfl, i + 1, cur, turn, held, vf, hip, fun _ => by rw [et]; exact Nat.div_le_div_right (by walk_at "o"), .inr eh, hh, ?_⟩
          rw [ea]
      · rintro _ ⟨a, cu, t, hd, vf, a1, a2, a3, a4, rfl⟩
        refine ss_cons ?_
        refine s_while (fun k σ' => ∃ (a cu t : Nat) (hd : List UInt8) (vf : Nat), k + a = n ∧ a ≤ p ∧ (a < n → t ≤ a / I) ∧ (a % I = 0 ∨ hd = key (a - 1)) ∧ hd.length ≤ 1000000 ∧
          σ' = ⟨[("self", .cst (.ref x)), ("target", .bytes target), ("left", .int l), ("right", .int l), ("side", .int s), ("standing", .bool (decide (cur < limOf d))), ("middle", m), ("found", f)], [], [], (x, itOb dx b order cu (pos a) t hd vf) :: rest⟩) ?_ (n - a) ⟨a, cu, t, hd, vf, by have := T.le; (walk_at "o"), a1, a2, a3, a4, rfl⟩
        rintro k _ ⟨a, cu, t, hd, vf, ek, a1, a2, a3, a4, rfl⟩
        have hpn := T.le
        refine b_plain ?_ rfl
        refine e_meth ?_ rfl rfl (by decide) rfl
        refine e_loc (.head _) rfl ?_
        refine mo_inst (.head _) (kcls375 G) (kmeth375_parse G) (by exact nm375_parse) ⟨kkeep330 G, ?_⟩
        refine sw_nil ?_
        by_cases han : a < n
        · refine FnS.callP (parse_to G L h' han (a2 han) a3 a4) (by walk_at "o") ?_
          refine t_bool ⟨fun _ => ?_, fun hb => absurd hb (by decide)⟩
          have hkk := T.kk a han
          have hkt := T.kt
          refine ss_cons ?_
          unfold stOb itOb
          apply s_ifp
          · apply bp_cmp (hm := rfl)
            refine e_meth ?_ rfl rfl (by decide) rfl
            refine e_attr ?_ rfl
            refine e_loc (.head _) rfl ?_
            refine a_inst (by walk_at "mem") (kcls375 G) (kfld375_order G) (by exact nd375) (by exact (.tail _ (.head _))) handed_ref ?_
            refine mo_order G (by walk_at "o") (by walk_at "ord") fun f hkf hc => ⟨hkf, ?_⟩
            refine sw_cons ?_
            refine e_attr ?_ rfl
            refine e_loc (.head _) rfl ?_
            refine a_inst (by walk_at "mem") (kcls375 G) (kfld375_held_key G) (by exact nd375) (by exact (mem_ix 5 rfl)) handed_bytes ?_
            refine sw_cons ?_
            refine e_loc (.tail _ (.head _)) rfl ?_
            refine sw_nil ?_
            refine hc _ _ _ _ (by walk_at "ord") hkk hkt ?_
            refine e_int ?_
            refine c_ge ?_
            refine t_bool ⟨rfl, rfl⟩
          · intro hq
            have hq := of_decide_eq_true hq
            have hap : a = p := by
              rcases Nat.lt_or_ge a p with q | q
              · have := T.lo a q; (walk_at "o")
              · (walk_at "o")
            subst hap
            refine ss_cons ?_
            refine s_ret0 ?_
            refine ⟨_, .refl _, rfl, 0, 0, ?_⟩
            rw [if_pos han]
          · intro hq
            have hq := of_decide_eq_false hq
            have hap : a < p := by
              rcases Nat.lt_or_ge a p with q | q
              · exact q
              · have := T.hi a q han; (walk_at "o")
            refine ss_nil ?_
            refine ss_nil ?_
            have := L.klen a han
            exact ⟨k - 1, by walk_at "o", a + 1, pos a, a / I, key a, vaOf d (pos a), by walk_at "o", by walk_at "o", fun _ => Nat.div_le_div_right (by walk_at "o"), .inr rfl, by walk_at "o", rfl⟩
        · have ean : a = n := by walk_at "o"
          refine FnS.callP (parse_end_spec (dx := dx) (order := order) (cur := cu) (ahead := pos a) (turn := t) (held := hd) (vf := vf) G h' L.ok (by rw [ean, L.last]; exact Nat.le_refl _)) (by walk_at "o") ?_
          refine t_bool ⟨fun hb => absurd hb (by decide), fun _ => ?_⟩
          refine ss_nil ?_
          refine ss_nil ?_
          refine ⟨_, .refl _, rfl, t, vf, ?_⟩
          rw [if_neg (by walk_at "o")]
          rfl
end narrow_spec
theorem narrow_spec {g : Gx} {x dx b bx order rs : Addr} {d held : List UInt8} {n I : Nat} {pos : Nat → Nat} {key val : Nat → List UInt8} {rest : Led} {internal : Bool} {target : List UInt8} {p cur ahead turn vf : Nat} : narrow_spec.Stm g x dx b bx order rs d held n I pos key val rest internal target p cur ahead turn vf :=
  eps_at narrow_spec.Stq narrow_spec.tt0 (by with_unfolding_all exact narrow_spec.zz0) (g, x, dx, b, bx, order, rs, d, held, n, I, pos, key, val, rest, internal, target, p, cur, ahead, turn, vf)
section
variable {g : Gx} {x dx b bx order rs : Addr} {d held : List UInt8} {n I : Nat} {pos : Nat → Nat} {key val : Nat → List UInt8} {rest : Led} {internal : Bool} {target : List UInt8} {p : Nat}
theorem seek_spec (G : GH g) (L : Lay d n I pos key val) (T : Tgt n key internal target p) (h : BlkIn b bx order rs d rest) (hO : OrdIn order internal rest) {cur ahead turn vf : Nat}
    (S : (∃ i, i < n ∧ cur = pos i ∧ ahead = pos (i + 1) ∧ turn = i / I ∧ held = key i ∧ vf = vaOf d (pos i)) ∨ cur = limOf d) (hh : held.length ≤ 1000000) :
    FnS g 6 351 [.cst (.ref x), .bytes target] ((x, itOb dx b order cur ahead turn held vf) :: rest) (fun v led' => v = .none ∧ ∃ t vf, led' = (x, if p < n then stOb dx b order d I pos key p else loOb dx b order d t vf) :: rest) NoX := by
  refine fnS (kfn351 G) loc351 noc351 clo351 rfl fun c hg hn he => ?_
  subst hg
  have F := kfn351 G
  show WSs c _ _ ⟨[("self", .cst (.ref x)), ("target", .bytes target)], [], [], _⟩ _
  refine ss_cons ?_
  refine s_try0 ?_
  refine ss_cons ?_
  refine s_exprn ?_ rfl
  refine e_meth ?_ rfl rfl (by decide) rfl
  refine e_loc (.head _) rfl ?_
  refine mo_inst (.head _) (kcls375 G) (kmeth375_narrow G) (by exact nm375_narrow) ⟨kkeep358 G, ?_⟩
  refine sw_cons ?_
  refine e_loc (.tail _ (.head _)) rfl ?_
  refine sw_nil ?_
  refine FnS.call0 (narrow_spec G L T h hO S hh) (by walk_at "o") ?_
  rintro v led' ⟨rfl, t, vf', rfl⟩
  refine ⟨trivial, ?_⟩
  refine ss_nil ?_
  refine ss_nil ?_
  refine ss_nil ?_
  exact ⟨_, .refl _, rfl, t, vf', rfl⟩
end
noncomputable def draw (nums : List Nat) (i : Nat) : Nat := nums.getD (i % nums.length) 0 + 7919 * (i / nums.length)
theorem law_draw_spec {g : Gx} (G : GH g) {l : Addr} {nums : List Nat} {led : Led} (hl : (l, Ob.list (natsV nums)) ∈ led) (h1 : 1 ≤ nums.length) (h2 : nums.length ≤ 100) (i : Nat) :
    FnS g 1 529 [.cst (.ref l), .int i] led (fun v led' => v = .int (draw nums i : Nat) ∧ led' = led) NoX := by
  refine fnS (kfn529 G) loc529 noc529 clo529 rfl fun c hg hn he => ?_
  subst hg
  have F := kfn529 G
  have hnl := natsV_length nums
  have hm := Nat.mod_lt i (show 0 < nums.length by walk_at "o")
  have e1 : (i : Int) % ((natsV nums).length : Int) = ((i % nums.length : Nat) : Int) := by rw [hnl]; rfl
  have e2 : (i : Int) / ((natsV nums).length : Int) = ((i / nums.length : Nat) : Int) := by rw [hnl]; rfl
  show WSs c _ _ ⟨[("nums", .cst (.ref l)), ("i", .int i)], [], [], _⟩ _
  refine ss_cons ?_
  refine s_ret ?_
  refine e_bin ?_
  refine e_sub ?_
  refine e_loc (.head _) rfl ?_
  refine e_bin ?_
  refine e_loc (.tail _ (.head _)) rfl ?_
  refine e_call ?_ rfl rfl
  refine e_gl F he g529_len (has_len G) ?_
  refine ⟨_, rfl, keep_builtin, ?_⟩
  refine sw_cons ?_
  refine e_loc (.head _) rfl ?_
  refine sw_nil ?_
  refine call_lenL hl (by walk_at "o") ?_
  refine o_mod (by walk_at "o") ?_
  rw [e1]
  refine so_list hl (by walk_at "o") (by walk_at "o") (natsV_item (by walk_at "o") (by walk_at "o")) ?_
  refine e_bin ?_
  refine e_int ?_
  refine e_bin ?_
  refine e_loc (.tail _ (.head _)) rfl ?_
  refine e_call ?_ rfl rfl
  refine e_gl F he g529_len (has_len G) ?_
  refine ⟨_, rfl, keep_builtin, ?_⟩
  refine sw_cons ?_
  refine e_loc (.head _) rfl ?_
  refine sw_nil ?_
  refine call_lenL hl (by walk_at "o") ?_
  refine o_div (by walk_at "o") (by walk_at "o") ?_
  rw [e2]
  refine o_mul (.inl (by decide)) ?_
  refine o_add ?_
  exact ⟨_, .refl _, rfl, rfl⟩
noncomputable def word (v : Nat) : List UInt8 := if v % 64 = 0 then [(v / 64).toUInt8] else [(v / 64).toUInt8, (v % 64).toUInt8]
theorem law_word_spec {g : Gx} (G : GH g) (v : Nat) (h1 : v < 16384) (led : Led) : FnS g 1 536 [.int v] led (fun r led' => r = .bytes (word v) ∧ led' = led) NoX := by
  refine fnS (kfn536 G) loc536 noc536 clo536 rfl fun c hg hn he => ?_
  subst hg
  have F := kfn536 G
  have e1 : (v : Int) / 64 = ((v / 64 : Nat) : Int) := by walk_at "o"
  have e2 : (v : Int) % 64 = ((v % 64 : Nat) : Int) := by walk_at "o"
  show WSs c _ _ ⟨[("v", .int v)], [], [], _⟩ _
  refine ss_cons ?_
  apply s_ifp
  · apply bp_cmp (hm := rfl)
    refine e_bin ?_
    refine e_loc (.head _) rfl ?_
    refine e_int ?_
    refine o_mod (by walk_at "sc") ?_
    refine e_int ?_
    refine c_eq ?_
    refine t_bool ⟨rfl, rfl⟩
  · intro hp
    have hp := of_decide_eq_true hp
    refine ss_cons ?_
    refine s_ret ?_
    refine e_call ?_ rfl rfl
    refine e_gl F he g536_bytes (has_bytes G) ?_
    refine ⟨_, rfl, keep_type, ?_⟩
    refine sw_cons ?_
    refine e_list rfl ?_
    refine sw_cons ?_
    refine e_bin ?_
    refine e_loc (.head _) rfl ?_
    refine e_int ?_
    refine o_div (by walk_at "sc") (by walk_at "sc") ?_
    refine sw_nil ⟨Nat.le_of_ble_eq_true rfl, fun _ => ?_⟩
    refine sw_nil ?_
    refine call_bytesN [_] (.head _) rfl (by walk_at "octs") (Nat.le_of_ble_eq_true rfl) ?_
    refine ⟨_, .skip (.refl _), ?_, rfl⟩
    rw [e1, word, if_pos (by walk_at "o")]
    rfl
  · intro hp
    have hp := of_decide_eq_false hp
    refine ss_nil ?_
    refine ss_cons ?_
    refine s_ret ?_
    refine e_call ?_ rfl rfl
    refine e_gl F he g536_bytes (has_bytes G) ?_
    refine ⟨_, rfl, keep_type, ?_⟩
    refine sw_cons ?_
    refine e_list rfl ?_
    refine sw_cons ?_
    refine e_bin ?_
    refine e_loc (.head _) rfl ?_
    refine e_int ?_
    refine o_div (by walk_at "sc") (by walk_at "sc") ?_
    refine sw_cons ?_
    refine e_bin ?_
    refine e_loc (.head _) rfl ?_
    refine e_int ?_
    refine o_mod (by walk_at "sc") ?_
    refine sw_nil ⟨Nat.le_of_ble_eq_true rfl, fun _ => ?_⟩
    refine sw_nil ?_
    refine call_bytesN [_, _] (.head _) rfl (by walk_at "octs") (Nat.le_of_ble_eq_true rfl) ?_
    refine ⟨_, .skip (.refl _), ?_, rfl⟩
    rw [e1, e2, word, if_neg (by walk_at "o")]
    rfl
noncomputable def lnum (n : Nat) : List UInt8 := [(n % 256).toUInt8, (n / 256).toUInt8, 0, 0]
theorem law_number_spec {g : Gx} (G : GH g) (v : Nat) (h1 : v < 65536) (led : Led) : FnS g 1 550 [.int v] led (fun r led' => r = .bytes (lnum v) ∧ led' = led) NoX := by
  refine fnS (kfn550 G) loc550 noc550 clo550 rfl fun c hg hn he => ?_
  subst hg
  have F := kfn550 G
  have e1 : (v : Int) / 256 = ((v / 256 : Nat) : Int) := by walk_at "o"
  have e2 : (v : Int) % 256 = ((v % 256 : Nat) : Int) := by walk_at "o"
  show WSs c _ _ ⟨[("n", .int v)], [], [], _⟩ _
  refine ss_cons ?_
  refine s_ret ?_
  refine e_call ?_ rfl rfl
  refine e_gl F he g550_bytes (has_bytes G) ?_
  refine ⟨_, rfl, keep_type, ?_⟩
  refine sw_cons ?_
  refine e_list rfl ?_
  refine sw_cons ?_
  refine e_bin ?_
  refine e_loc (.head _) rfl ?_
  refine e_int ?_
  refine o_mod (by walk_at "sc") ?_
  refine sw_cons ?_
  refine e_bin ?_
  refine e_loc (.head _) rfl ?_
  refine e_int ?_
  refine o_div (by walk_at "sc") (by walk_at "sc") ?_
  refine sw_cons ?_
  refine e_int ?_
  refine sw_cons ?_
  refine e_int ?_
  refine sw_nil ⟨Nat.le_of_ble_eq_true rfl, fun _ => ?_⟩
  refine sw_nil ?_
  refine call_bytesN [_, _, _, _] (.head _) rfl (by walk_at "octs") (Nat.le_of_ble_eq_true rfl) ?_
  refine ⟨_, .skip (.refl _), ?_, rfl⟩
  rw [e1, e2]
  rfl
noncomputable def lseq (v half : Nat) : Nat := (if v % 2 = 0 then 300 else 7) - half
noncomputable def lkey (internal : Bool) (v half : Nat) : List UInt8 :=
  if internal then word (v / 2) ++ [(v / 3 % 2).toUInt8, (lseq v half % 256).toUInt8, (lseq v half / 256).toUInt8, 0, 0, 0, 0, 0] else word v ++ List.replicate half 0
theorem word_length (v : Nat) : 1 ≤ (word v).length ∧ (word v).length ≤ 2 := by unfold word; split <;> simp
theorem law_key_spec {g : Gx} (G : GH g) (v half : Nat) (internal : Bool) (h1 : v < 16384) (h2 : half ≤ 1) (led : Led) :
    FnS g 2 543 [.int v, .int half, .bool internal] led (fun r led' => r = .bytes (lkey internal v half) ∧ led' = led) NoX := by
  refine fnS (kfn543 G) loc543 noc543 clo543 rfl fun c hg hn he => ?_
  subst hg
  have F := kfn543 G
  have e1 : (v : Int) / 2 = ((v / 2 : Nat) : Int) := by walk_at "o"
  have e2 : (v : Int) % 2 = ((v % 2 : Nat) : Int) := by walk_at "o"
  have e3 : (v : Int) / 3 % 2 = ((v / 3 % 2 : Nat) : Int) := by walk_at "o"
  have w1 := word_length (v / 2)
  have w2 := word_length v
  show WSs c _ _ ⟨[("v", .int v), ("half", .int half), ("internal", .bool internal), ("seq", .unset)], [], [], _⟩ _
  refine ss_cons ?_
  apply s_ifp
  · apply bp_plain (hp := rfl)
    refine e_loc (.tail _ (.tail _ (.head _))) rfl ?_
    refine t_bool ⟨rfl, rfl⟩
  · intro hp
    refine ss_cons ?_
    refine s_assign ?_ rfl
    refine e_bin ?_
    refine e_sub ?_
    refine e_list rfl ?_
    refine sw_cons ?_
    refine e_int ?_
    refine sw_cons ?_
    refine e_int ?_
    refine sw_nil ⟨Nat.le_of_ble_eq_true rfl, fun _ => ?_⟩
    refine e_bin ?_
    refine e_loc (.head _) rfl ?_
    refine e_int ?_
    refine o_mod (by decide) ?_
    rw [e2]
    refine so_list (x := .int (if v % 2 = 0 then 300 else 7 : Nat)) (.head _) (by walk_at "o") (by walk_at "o") ?_ ?_
    · rw [toNat_cast]
      rcases Nat.mod_two_eq_zero_or_one v with q | q
      · rw [q]; rfl
      · rw [q]; rfl
    refine e_loc (.tail _ (.head _)) rfl ?_
    refine o_sub ?_
    have e4 : (((if v % 2 = 0 then 300 else 7 : Nat) : Nat) : Int) - (half : Int) = (lseq v half : Int) := by
      unfold lseq; split <;> (walk_at "o")
    rw [e4]
    refine ⟨_, (.tail _ (.tail _ (.tail _ (.head _ _)))), ?_⟩
    have ls : lseq v half ≤ 300 := by unfold lseq; split <;> (walk_at "o")
    have e5 : (lseq v half : Int) % 256 = ((lseq v half % 256 : Nat) : Int) := by walk_at "o"
    have e6 : (lseq v half : Int) / 256 = ((lseq v half / 256 : Nat) : Int) := by walk_at "o"
    refine ss_cons ?_
    refine s_ret ?_
    refine e_bin ?_
    refine e_call ?_ rfl rfl
    refine e_gl F he g543__law_word (has__law_word G) ?_
    refine ⟨_, rfl, (kkeep536 G), ?_⟩
    refine sw_cons ?_
    refine e_bin ?_
    refine e_loc (.head _) rfl ?_
    refine e_int ?_
    refine o_div (by walk_at "sc") (by walk_at "sc") ?_
    refine sw_nil ?_
    rw [e1]; refine FnS.callP (law_word_spec G (v / 2) (by walk_at "o") _) (by walk_at "o") ?_
    refine e_call ?_ rfl rfl
    refine e_gl F he g543_bytes (has_bytes G) ?_
    refine ⟨_, rfl, keep_type, ?_⟩
    refine sw_cons ?_
    refine e_list rfl ?_
    refine sw_cons ?_
    refine e_bin ?_
    refine e_bin ?_
    refine e_loc (.head _) rfl ?_
    refine e_int ?_
    refine o_div (by walk_at "sc") (by walk_at "sc") ?_
    refine e_int ?_
    refine o_mod (by walk_at "sc") ?_
    refine sw_cons ?_
    refine e_bin ?_
    refine e_loc (mem_ix 3 rfl) rfl ?_
    refine e_int ?_
    refine o_mod (by walk_at "sc") ?_
    refine sw_cons ?_
    refine e_bin ?_
    refine e_loc (mem_ix 3 rfl) rfl ?_
    refine e_int ?_
    refine o_div (by walk_at "sc") (by walk_at "sc") ?_
    refine sw_cons ?_
    refine e_int ?_
    refine sw_cons ?_
    refine e_int ?_
    refine sw_cons ?_
    refine e_int ?_
    refine sw_cons ?_
    refine e_int ?_
    refine sw_cons ?_
    refine e_int ?_
    refine sw_nil ⟨Nat.le_of_ble_eq_true rfl, fun _ => ?_⟩
    refine sw_nil ?_
    refine call_bytesN [_, _, _, _, _, _, _, _] (.head _) rfl (by walk_at "octs") (Nat.le_of_ble_eq_true rfl) ?_
    refine o_addB (by walk_at "sc") ?_
    refine ⟨_, .skip (.skip (.refl _)), ?_, rfl⟩
    rw [e3, e5, e6, lkey, if_pos hp]
    rfl
  · intro hp
    refine ss_nil ?_
    refine ss_cons ?_
    refine s_ret ?_
    refine e_bin ?_
    refine e_call ?_ rfl rfl
    refine e_gl F he g543__law_word (has__law_word G) ?_
    refine ⟨_, rfl, (kkeep536 G), ?_⟩
    refine sw_cons ?_
    refine e_loc (.head _) rfl ?_
    refine sw_nil ?_
    refine FnS.callP (law_word_spec G v (by walk_at "o") _) (by walk_at "o") ?_
    refine e_bin ?_
    refine e_bytes ?_
    refine e_loc (.tail _ (.head _)) rfl ?_
    refine o_mulB (by decide) (by walk_at "o") (by walk_at "o") (by decide) ?_
    rw [toNat_cast]
    have e7 : (List.replicate half [(0 : UInt8)]).flatten = List.replicate half 0 := by
      rcases (show half = 0 ∨ half = 1 by walk_at "o") with rfl | rfl <;> rfl
    have e8 : (List.replicate half (0 : UInt8)).length = half := List.length_replicate
    rw [e7]
    refine o_addB (by walk_at "o") ?_
    refine ⟨_, .refl _, ?_, rfl⟩
    rw [lkey, if_neg (by rw [hp]; decide)]
section
variable {g : Gx} {x dx b bx order rs kl vl : Addr} {d : List UInt8} {n I : Nat} {pos : Nat → Nat} {key val : Nat → List UInt8} {led : Led} {ks vs : List (List UInt8)}
theorem law_stands_out_spec (G : GH g) (h : BlkIn b bx order rs d led) {t vf : Nat} (hx : (x, loOb dx b order d t vf) ∈ led) (hk : (kl, Ob.list (bytesV ks)) ∈ led) (hz : ks.length ≤ 1000) (at_ : Int) (ho : at_ < 0 ∨ ks.length ≤ at_) (vv : V) :
    FnS g 2 569 [.cst (.ref x), .cst (.ref kl), vv, .int at_] led (fun r led' => r = .bool true ∧ led' = led) NoX := by
  refine fnS (kfn569 G) loc569 noc569 clo569 rfl fun c hg hn he => ?_
  subst hg
  have F := kfn569 G
  have hnl := bytesV_length ks
  have hx' := hx
  unfold loOb at hx
  show WSs c _ _ ⟨[("walker", .cst (.ref x)), ("keys", .cst (.ref kl)), ("values", vv), ("at", .int at_)], [], [], _⟩ _
  refine ss_cons ?_
  apply s_ifp
  · apply bp_or
    · apply bp_cmp (hm := rfl)
      refine e_loc (mem_ix 3 rfl) rfl ?_
      refine e_int ?_
      refine c_lt ?_
      refine t_bool ⟨rfl, rfl⟩
    · intro hp
      walk_at "hp"
      apply bp_cmp (hm := rfl)
      refine e_loc (mem_ix 3 rfl) rfl ?_
      refine e_call ?_ rfl rfl
      refine e_gl F he g569_len (has_len G) ?_
      refine ⟨_, rfl, keep_builtin, ?_⟩
      refine sw_cons ?_
      refine e_loc (.tail _ (.head _)) rfl ?_
      refine sw_nil ?_
      refine call_lenL (by walk_at "mem") (by walk_at "sc") ?_
      refine c_ge ?_
      refine t_bool ⟨rfl, rfl⟩
  · intro hp
    unfold itOb at hx
    refine ss_cons ?_
    refine s_ret ?_
    refine e_un ?_
    refine e_meth ?_ rfl rfl (by decide) rfl
    refine e_loc (.head _) rfl ?_
    refine mo_inst hx (kcls375 G) (kmeth375_valid G) (by exact nm375_valid) ⟨kkeep302 G, ?_⟩
    refine sw_nil ?_
    refine FnS.callP (valid_spec G hx' h) (by walk_at "o") ?_
    refine u_not ?_
    refine ⟨_, .refl _, ?_, rfl⟩
    rw [decide_eq_false (Nat.lt_irrefl _)]
    rfl
  · intro hp
    exfalso
    simp only [Bool.or_eq_false_iff, decide_eq_false_iff_not] at hp
    (walk_at "o")
theorem law_stands_spec (G : GH g) (L : Lay d n I pos key val) (h : BlkIn b bx order rs d led) {i : Nat} (hi : i < n) (hx : (x, stOb dx b order d I pos key i) ∈ led) (hk : (kl, Ob.list (bytesV ks)) ∈ led) (hv : (vl, Ob.list (bytesV vs)) ∈ led)
    (hz : ks.length = n) (hzv : vs.length = n) (hn0 : n ≤ 1000) (e1 : ks.getD i [] = key i) (e2 : vs.getD i [] = val i) :
    FnS g 3 569 [.cst (.ref x), .cst (.ref kl), .cst (.ref vl), .int i] led (fun r led' => r = .bool true ∧ led' = led) NoX := by
  refine fnS (kfn569 G) loc569 noc569 clo569 rfl fun c hg hn he => ?_
  subst hg
  have F := kfn569 G
  have hnl := bytesV_length ks
  have hnv := bytesV_length vs
  have hx' := hx
  have l1 := L.lim hi
  have hB := L.ok
  obtain ⟨b1, b2, b3, b4⟩ := hB
  have nx := L.next i hi
  have en := L.ent i hi
  have hf := en.fits
  have hld : limOf d ≤ d.length := by unfold limOf; (walk_at "o")
  have hpl : pos (i + 1) ≤ d.length := by rw [← nx]; unfold enOf; (walk_at "o")
  have hva : vaOf d (pos i) ≤ pos (i + 1) := by rw [← nx]; unfold vaOf enOf; (walk_at "o")
  have vl := L.val i hi
  unfold stOb at hx
  have hx2 := hx
  unfold itOb at hx
  show WSs c _ _ ⟨[("walker", .cst (.ref x)), ("keys", .cst (.ref kl)), ("values", .cst (.ref _)), ("at", .int i)], [], [], _⟩ _
  refine ss_cons ?_
  apply s_ifp
  · apply bp_or
    · apply bp_cmp (hm := rfl)
      refine e_loc (mem_ix 3 rfl) rfl ?_
      refine e_int ?_
      refine c_lt ?_
      refine t_bool ⟨rfl, rfl⟩
    · intro hp
      walk_at "hp"
      apply bp_cmp (hm := rfl)
      refine e_loc (mem_ix 3 rfl) rfl ?_
      refine e_call ?_ rfl rfl
      refine e_gl F he g569_len (has_len G) ?_
      refine ⟨_, rfl, keep_builtin, ?_⟩
      refine sw_cons ?_
      refine e_loc (.tail _ (.head _)) rfl ?_
      refine sw_nil ?_
      refine call_lenL (by walk_at "mem") (by walk_at "sc") ?_
      refine c_ge ?_
      refine t_bool ⟨rfl, rfl⟩
  · intro hp
    exfalso
    simp only [Bool.or_eq_true, decide_eq_true_eq] at hp
    (walk_at "o")
  · intro hp
    refine ss_nil ?_
    refine ss_cons ?_
    refine s_ret ?_
    refine e_and3 ?_
    refine e_meth ?_ rfl rfl (by decide) rfl
    refine e_loc (.head _) rfl ?_
    refine mo_inst hx (kcls375 G) (kmeth375_valid G) (by exact nm375_valid) ⟨kkeep302 G, ?_⟩
    refine sw_nil ?_
    refine FnS.callP (valid_spec G hx2 h) (by walk_at "o") ?_
    rw [decide_eq_true l1]
    refine t_bool ⟨fun _ => ?_, fun hb => absurd hb (by decide)⟩
    refine e_cmp ?_ rfl
    refine e_meth ?_ rfl rfl (by decide) rfl
    refine e_loc (.head _) rfl ?_
    refine mo_inst hx (kcls375 G) (kmeth375_key G) (by exact nm375_key) ⟨kkeep309 G, ?_⟩
    refine sw_nil ?_
    refine FnS.callP (key_spec G hx2 h l1) (by walk_at "o") ?_
    refine e_sub ?_
    refine e_loc (.tail _ (.head _)) rfl ?_
    refine e_loc (mem_ix 3 rfl) rfl ?_
    refine so_list hk (by walk_at "o") (by walk_at "o") (bytesV_item (by walk_at "o") (by walk_at "o")) ?_
    rw [toNat_cast, e1]
    refine c_eqB ?_
    rw [decide_eq_true rfl]
    refine t_bool ⟨fun _ => ?_, fun hb => absurd hb (by decide)⟩
    refine e_cmp ?_ rfl
    refine e_meth ?_ rfl rfl (by decide) rfl
    refine e_loc (.head _) rfl ?_
    refine mo_inst hx (kcls375 G) (kmeth375_value G) (by exact nm375_value) ⟨kkeep316 G, ?_⟩
    refine sw_nil ?_
    refine FnS.callP (value_spec G hx2 h l1 b1 hva hpl) (by walk_at "o") ?_
    refine e_sub ?_
    refine e_loc (.tail _ (.tail _ (.head _))) rfl ?_
    refine e_loc (mem_ix 3 rfl) rfl ?_
    refine so_list hv (by walk_at "o") (by walk_at "o") (bytesV_item (by walk_at "o") (by walk_at "o")) ?_
    rw [toNat_cast, e2, vl]
    refine c_eqB ?_
    rw [decide_eq_true rfl]
    exact ⟨_, .refl _, rfl, rfl⟩
end
theorem ord_cons (x y : UInt8) (xs ys : List UInt8) : ord (x :: xs) (y :: ys) = if x < y then .lt else if x > y then .gt else ord xs ys := rfl
theorem ord_self : ∀ a : List UInt8, ord a a = .eq
  | [] => rfl
  | x :: xs => by rw [ord_cons, if_neg (UInt8.lt_irrefl x), if_neg (UInt8.lt_irrefl x), ord_self xs]
theorem oct_lt_iff {a b : Nat} (ha : a < 256) (hb : b < 256) : a.toUInt8 < b.toUInt8 ↔ a < b := by
  rw [UInt8.lt_iff_toNat_lt]
  simp only [Nat.toUInt8, UInt8.toNat_ofNat']
  rw [Nat.mod_eq_of_lt (by walk_at "o"), Nat.mod_eq_of_lt (by walk_at "o")]
theorem ord_head {a b : Nat} {xs ys : List UInt8} (h : a < b) (hb : b < 256) : ord (a.toUInt8 :: xs) (b.toUInt8 :: ys) = .lt ∧ ord (b.toUInt8 :: ys) (a.toUInt8 :: xs) = .gt := by
  have h1 := (oct_lt_iff (a := a) (b := b) (by walk_at "o") hb).mpr h
  have h2 : ¬ b.toUInt8 < a.toUInt8 := fun q => by have := (oct_lt_iff (a := b) (b := a) hb (by walk_at "o")).mp q; (walk_at "o")
  exact ⟨by rw [ord_cons, if_pos h1], by rw [ord_cons, if_neg h2, if_pos h1]⟩
theorem ord_same (x : UInt8) (xs ys : List UInt8) : ord (x :: xs) (x :: ys) = ord xs ys := by
  rw [ord_cons, if_neg (UInt8.lt_irrefl x), if_neg (UInt8.lt_irrefl x)]
theorem word_ord {v v' h h' : Nat} (hv : v < 16384) (hv' : v' < 16384) (hh : h ≤ 1) (hh' : h' ≤ 1) (hl : 2 * v + h < 2 * v' + h') :
    ord (word v ++ List.replicate h 0) (word v' ++ List.replicate h' 0) = .lt ∧ ord (word v' ++ List.replicate h' 0) (word v ++ List.replicate h 0) = .gt := by
  have z : (0 : UInt8) = (0 : Nat).toUInt8 := rfl
  have key : ∀ v : Nat, word v = (v / 64).toUInt8 :: (if v % 64 = 0 then [] else [(v % 64).toUInt8]) := fun v => by
    unfold word; split <;> rfl
  rw [key v, key v']
  simp only [List.cons_append]
  rcases Nat.lt_or_ge (v / 64) (v' / 64) with q | q
  · exact ord_head q (by walk_at "o")
  · have e : v / 64 = v' / 64 := by walk_at "o"
    rw [e, ord_same, ord_same]
    rcases Nat.lt_or_ge (v % 64) (v' % 64) with r | r
    · rw [if_neg (show ¬ v' % 64 = 0 by walk_at "o")]
      by_cases q0 : v % 64 = 0
      · rw [if_pos q0]
        rcases (show h = 0 ∨ h = 1 by walk_at "o") with rfl | rfl
        · exact ⟨rfl, rfl⟩
        · exact ord_head (a := 0) (b := v' % 64) (by walk_at "o") (by walk_at "o")
      · rw [if_neg q0]
        exact ord_head r (by walk_at "o")
    · have e2 : v % 64 = v' % 64 := by walk_at "o"
      have h0 : h = 0 := by walk_at "o"
      have h1 : h' = 1 := by walk_at "o"
      subst h0; subst h1
      rw [e2]
      split
      · exact ⟨rfl, rfl⟩
      · rw [List.singleton_append, List.singleton_append, ord_same, ord_same]
        exact ⟨rfl, rfl⟩
theorem tag_of_key (w : List UInt8) (hw : 1 ≤ w.length) (a b c : Nat) (ha : a < 256) (hb : b < 256) (hc : c < 256) :
    u64 (w ++ [a.toUInt8, b.toUInt8, c.toUInt8, 0, 0, 0, 0, 0]) w.length = a + 256 * b + 65536 * c := by
  have t : ∀ k, k < 256 → (k.toUInt8).toNat = k := fun k hk => by simp only [Nat.toUInt8, UInt8.toNat_ofNat']; (walk_at "o")
  have g : ∀ (l : List UInt8) (k : Nat), (w ++ l).getD (w.length + k) 0 = l.getD k 0 := fun l k => by
    simp [List.getD_eq_getElem?_getD, List.getElem?_append_right]
  unfold u64 u32
  have g0 := g [a.toUInt8, b.toUInt8, c.toUInt8, 0, 0, 0, 0, 0] 0
  rw [Nat.add_zero] at g0
  simp only [Nat.add_assoc, g0, g]
  simp only [List.getD_cons_zero, List.getD_cons_succ, t a ha, t b hb, t c hc]
  simp
theorem tag_of_lkey (v half : Nat) (h2 : half ≤ 1) : (lkey true v half).length - 8 = (word (v / 2)).length ∧ (lkey true v half).take ((lkey true v half).length - 8) = word (v / 2) ∧
    u64 (lkey true v half) ((lkey true v half).length - 8) = v / 3 % 2 + 256 * lseq v half := by
  have w1 := word_length (v / 2)
  have ls : lseq v half ≤ 300 := by unfold lseq; split <;> (walk_at "o")
  have e : lkey true v half = word (v / 2) ++ [(v / 3 % 2).toUInt8, (lseq v half % 256).toUInt8, (lseq v half / 256).toUInt8, 0, 0, 0, 0, 0] := if_pos rfl
  rw [e]
  have hl : (word (v / 2) ++ [(v / 3 % 2).toUInt8, (lseq v half % 256).toUInt8, (lseq v half / 256).toUInt8, 0, 0, 0, 0, 0]).length - 8 = (word (v / 2)).length := by simp
  refine ⟨hl, by rw [hl]; simp, ?_⟩
  rw [hl, tag_of_key _ w1.1 _ _ _ (by walk_at "o") (by walk_at "o") (by walk_at "o")]
  (walk_at "o")
theorem lkey_lt (internal : Bool) {v v' h h' : Nat} (hv : v < 16384) (hv' : v' < 16384) (hh : h ≤ 1) (hh' : h' ≤ 1) (hl : 2 * v + h < 2 * v' + h') :
    kcmp internal (lkey internal v h) (lkey internal v' h') = -1 ∧ kcmp internal (lkey internal v' h') (lkey internal v h) = 1 := by
  cases internal with
  | false =>
    rw [kcmp_false, kcmp_false]
    have e : ∀ v h, lkey false v h = word v ++ List.replicate h 0 := fun v h => if_neg Bool.false_ne_true
    rw [e, e]
    obtain ⟨a, b⟩ := word_ord hv hv' hh hh' hl
    rw [a, b]
    exact ⟨rfl, rfl⟩
  | true =>
    rw [kcmp_true, kcmp_true]
    obtain ⟨a1, a2, a3⟩ := tag_of_lkey v h hh
    obtain ⟨b1, b2, b3⟩ := tag_of_lkey v' h' hh'
    unfold icmp
    rw [a2, b2, a3, b3]
    rcases Nat.lt_or_ge (v / 2) (v' / 2) with q | q
    · have := word_ord (v := v / 2) (v' := v' / 2) (h := 0) (h' := 0) (by walk_at "o") (by walk_at "o") (by walk_at "o") (by walk_at "o") (by walk_at "o")
      simp only [List.replicate_zero, List.append_nil] at this
      rw [this.1, this.2]
      exact ⟨rfl, rfl⟩
    · have e : v / 2 = v' / 2 := by walk_at "o"
      rw [e, ord_self]
      have hs : lseq v' h' < lseq v h := by
        unfold lseq
        split <;> split <;> (walk_at "o")
      have hle : v / 3 % 2 ≤ 1 := by walk_at "o"
      have hle' : v' / 3 % 2 ≤ 1 := by walk_at "o"
      refine ⟨?_, ?_⟩
      · rw [if_neg (fun q => q rfl), if_pos (by walk_at "o")]
      · rw [if_neg (fun q => q rfl), if_neg (by walk_at "o"), if_pos (by walk_at "o")]
theorem lkey_eq (internal : Bool) (v h : Nat) : kcmp internal (lkey internal v h) (lkey internal v h) = 0 := by
  cases internal with
  | false => rw [kcmp_false, ord_self]; rfl
  | true => rw [kcmp_true]; unfold icmp; rw [ord_self, if_neg (by decide), if_neg (Nat.lt_irrefl _), if_neg (Nat.lt_irrefl _)]
theorem lkey_ok (internal : Bool) (v h : Nat) (hh : h ≤ 1) : KeyOk internal (lkey internal v h) := by
  have w1 := word_length (v / 2)
  have w2 := word_length v
  unfold lkey
  cases internal with
  | false => exact ⟨by rw [if_neg Bool.false_ne_true]; simp; (walk_at "o"), fun q => absurd q (by decide)⟩
  | true => exact ⟨by rw [if_pos rfl]; simp; (walk_at "o"), fun _ => by rw [if_pos rfl]; simp⟩
theorem exc56 (P : Params) : ExcOk (HK P) 56 := ⟨(_, _, _, _, _, _, _, _, _, _, _, fun n => [_, _, _, _, none, _].getD n none), rfl, by kernel_rfl, by kernel_rfl, by kernel_rfl⟩
theorem exc92 (P : Params) : ExcOk (HK P) 92 := ⟨(_, _, _, _, _, _, _, _, _, _, _, fun n => [_, _, _, _, none, _].getD n none), rfl, by kernel_rfl, by kernel_rfl, by kernel_rfl⟩
theorem kexc56 {g : Gx} (G : GH g) : ExcOk g.K 56 := by rw [G.K]; exact exc56 _
theorem kexc92 {g : Gx} (G : GH g) : ExcOk g.K 92 := by rw [G.K]; exact exc92 _
theorem Rz.sub {c : Fx} {σ : St} {X X' : Addr → Led → Prop} {x : Value} {s : Shared} (h : Rz c σ X x s) (k : ∀ C l, X C l → subX X' C l) : Ex c (subX X') x s := by
  obtain ⟨C, σ', hx, q⟩ := h.ex
  exact ⟨C, σ', hx, k _ _ q⟩
noncomputable def NoQ : V → Led → Prop := fun _ _ => False
theorem FnS.callX {c : Fx} {σ : St} {n : Nat} {f : Addr} {ys : List V} {X X' : Addr → Led → Prop} {Q' : V → St → Prop} (h : FnS c.g n f ys σ.led NoQ X) (hn : n ≤ c.n) (k : ∀ C l, X C l → subX X' C l) : CallO c (Ex c (subX X')) (.ref f) ys σ Q' :=
  FnS.call (led := σ.led) h hn (fun _ _ z => z.sub k) fun _ _ q => q.elim
noncomputable def XIs (C0 : Addr) (led : Led) : Addr → Led → Prop := fun C l => C = C0 ∧ l = led
theorem xis_ex {c : Fx} {σ : St} {C : Addr} {led : Led} {e : Addr} {t : Option (Addr × Value)} {s : Shared} (R : Rel c { σ with led := (e, .exc C t) :: σ.led } s) (h : Sub σ.led led) : Ex c (subX (XIs C led)) (.ref e) s := ⟨C, σ, ⟨e, t, rfl, R⟩, led, h, rfl, rfl⟩
section
variable {g : Gx} {x dx b bx order rs : Addr} {d held : List UInt8} {rest : Led}
theorem need_raise_spec (G : GH g) {cur ahead turn vf : Nat} {led : Led} (hx : (x, itOb dx b order cur ahead turn held vf) ∈ led) (h : BlkIn b bx order rs d led) (hc : limOf d ≤ cur) :
    FnS g 1 295 [.cst (.ref x)] led NoQ (XIs 92 led) := by
  obtain ⟨h1, h2⟩ := h
  unfold blkOb at h1
  unfold itOb at hx
  refine fnSX (kfn295 G) loc295 noc295 clo295 rfl fun c hg hn ho he => ?_
  subst hg
  have F := kfn295 G
  show WSs c _ _ ⟨[("self", .cst (.ref x))], [], [], _⟩ _
  refine ss_cons ?_
  apply s_ifp
  · apply bp_cmp (hm := rfl)
    refine e_attr ?_ rfl
    refine e_loc (.head _) rfl ?_
    refine a_inst (by walk_at "mem") (kcls375 G) (kfld375_current G) (by exact nd375) (by exact (.tail _ (.tail _ (.head _)))) handed_int ?_
    refine e_attr ?_ rfl
    refine e_attr ?_ rfl
    refine e_loc (.head _) rfl ?_
    refine a_inst (by walk_at "mem") (kcls375 G) (kfld375_block G) (by exact nd375) (by exact (.head _)) handed_ref ?_
    refine a_inst (by walk_at "mem") (kcls263 G) (kfld263_limit G) (by exact nd263) (by exact (.tail _ (.tail _ (.head _)))) handed_int ?_
    refine c_ge ?_
    refine t_bool ⟨rfl, rfl⟩
  · intro _
    refine ss_cons ?_
    exact s_raise F he g295_IterMisuse (has_IterMisuse G) (kexc92 G) fun e s' R' => xis_ex R' (.refl _)
  · intro hp
    exfalso
    have hp := of_decide_eq_false hp
    (walk_at "o")
theorem step_raise_spec (G : GH g) {cur ahead turn vf : Nat} {led : Led} (hx : (x, itOb dx b order cur ahead turn held vf) ∈ led) (h : BlkIn b bx order rs d led) (hc : limOf d ≤ cur) :
    FnS g 2 365 [.cst (.ref x)] led NoQ (XIs 92 led) := by
  have hx' := hx
  unfold itOb at hx
  refine fnSX (kfn365 G) loc365 noc365 clo365 rfl fun c hg hn ho he => ?_
  subst hg
  have F := kfn365 G
  show WSs c _ _ ⟨[("self", .cst (.ref x))], [], [], _⟩ _
  refine ss_cons ?_
  refine s_exprn ?_ rfl
  refine e_meth ?_ rfl rfl (by decide) rfl
  refine e_loc (.head _) rfl ?_
  refine mo_inst hx (kcls375 G) (kmeth375_need G) (by exact nm375_need) ⟨kkeep295 G, ?_⟩
  refine sw_nil ?_
  exact FnS.callX (need_raise_spec G hx' h hc) (by walk_at "o") fun C l q => ⟨l, .refl _, q⟩
theorem back_raise_spec (G : GH g) {cur ahead turn vf : Nat} {led : Led} (hx : (x, itOb dx b order cur ahead turn held vf) ∈ led) (h : BlkIn b bx order rs d led) (hc : limOf d ≤ cur) :
    FnS g 2 372 [.cst (.ref x)] led NoQ (XIs 92 led) := by
  have hx' := hx
  unfold itOb at hx
  refine fnSX (kfn372 G) loc372 noc372 clo372 rfl fun c hg hn ho he => ?_
  subst hg
  have F := kfn372 G
  show WSs c _ _ ⟨[("self", .cst (.ref x)), ("original", .unset), ("turn", .unset)], [], [], _⟩ _
  refine ss_cons ?_
  refine s_exprn ?_ rfl
  refine e_meth ?_ rfl rfl (by decide) rfl
  refine e_loc (.head _) rfl ?_
  refine mo_inst hx (kcls375 G) (kmeth375_need G) (by exact nm375_need) ⟨kkeep295 G, ?_⟩
  refine sw_nil ?_
  exact FnS.callX (need_raise_spec G hx' h hc) (by walk_at "o") fun C l q => ⟨l, .refl _, q⟩
end
structure Bad (d : List UInt8) (r : Nat) : Prop where
  lt : r < cntOf d
  first : 0 < r → tabOf d 0 = 0
  rise : ∀ k, k + 1 < r → tabOf d k < tabOf d (k + 1) ∧ tabOf d (k + 1) < limOf d
  bad0 : r = 0 → tabOf d 0 ≠ 0
  bad : 0 < r → tabOf d r ≤ tabOf d (r - 1)
theorem block_init_raise_spec {g : Gx} (G : GH g) (d : List UInt8) (B : BlkOk d) (r : Nat) (T : Bad d r) (x dx order : Addr) (led : Led) :
    FnS g 2 232 [.cst (.ref x), .bytes d, .cst (.ref order)] ((x, .inst 263 dx []) :: led) NoQ (XIs 56 led) := by
  obtain ⟨b1, b2, b3, b4⟩ := B
  refine fnSX (kfn232 G) loc232 noc232 clo232 rfl fun c hg hn ho he => ?_
  subst hg
  have F := kfn232 G
  show WSs c _ _ ⟨[("self", .cst (.ref x)), ("data", .bytes d), ("order", .cst (.ref order)), ("size", .unset), ("count", .unset), ("turn", .unset), ("place", .unset)], [], [], _⟩ _
  refine ss_cons ?_
  refine s_setattr ?_ rfl
  refine e_call ?_ rfl rfl
  refine e_gl F he g232_bytes (has_bytes G) ?_
  refine ⟨_, rfl, keep_type, ?_⟩
  refine sw_cons ?_
  refine e_loc (.tail _ (.head _)) rfl ?_
  refine sw_nil ?_
  refine call_bytesB ?_
  refine e_loc (.head _) rfl ?_
  refine p_new (kcls263 G) (kfld263_data G) (by walk_at "upd") (by walk_at "len") (by exact new263_0) ?_
  refine ss_cons ?_
  refine s_setattr ?_ rfl
  refine e_loc (.tail _ (.tail _ (.head _))) rfl ?_
  refine e_loc (.head _) rfl ?_
  refine p_new (kcls263 G) (kfld263_order G) (by walk_at "upd") (by walk_at "len") (by exact new263_1) ?_
  refine ss_cons ?_
  refine s_assign ?_ rfl
  refine e_call ?_ rfl rfl
  refine e_gl F he g232_len (has_len G) ?_
  refine ⟨_, rfl, keep_builtin, ?_⟩
  refine sw_cons ?_
  refine e_attr ?_ rfl
  refine e_loc (.head _) rfl ?_
  refine a_inst (by walk_at "mem") (kcls263 G) (kfld263_data G) (by exact nd263_2) (by exact (.head _)) handed_bytes ?_
  refine sw_nil ?_
  refine call_lenB (by walk_at "sc") ?_
  refine ⟨_, (.tail _ (.tail _ (.tail _ (.head _ _)))), ?_⟩
  dsimp only
  refine ss_cons ?_
  apply s_ifp
  · apply bp_cmp (hm := rfl)
    refine e_loc (mem_ix 3 rfl) rfl ?_
    refine e_int ?_
    refine c_lt ?_
    refine t_bool ⟨rfl, rfl⟩
  · intro hp
    exfalso
    simp only [decide_eq_true_eq] at hp
    (walk_at "o")
  · intro _
    refine ss_nil ?_
    have e4 : (d.length : Int) - 4 = ((d.length - 4 : Nat) : Int) := by walk_at "o"
    refine ss_cons ?_
    refine s_assign ?_ rfl
    refine e_call ?_ rfl rfl
    refine e_gl F he g232_read_fixed32 (has_read_fixed32 G) ?_
    refine ⟨_, rfl, (kkeep148 G), ?_⟩
    refine sw_cons ?_
    refine e_attr ?_ rfl
    refine e_loc (.head _) rfl ?_
    refine a_inst (by walk_at "mem") (kcls263 G) (kfld263_data G) (by exact nd263_2) (by exact (.head _)) handed_bytes ?_
    refine sw_cons ?_
    refine e_bin ?_
    refine e_loc (mem_ix 3 rfl) rfl ?_
    refine e_int ?_
    refine o_sub ?_
    refine sw_nil ?_
    rw [e4]; refine FnS.callP (read_fixed32_spec G _ _ (by walk_at "o") (by walk_at "o") _) (by walk_at "o") ?_
    refine ⟨_, (.tail _ (.tail _ (.tail _ (.tail _ (.head _ _))))), ?_⟩
    dsimp only
    refine ss_cons ?_
    apply s_ifp
    · apply bp_cmp (hm := rfl)
      refine e_loc (mem_ix 4 rfl) rfl ?_
      refine e_int ?_
      refine c_lt ?_
      refine t_bool ⟨rfl, rfl⟩
    · intro hp
      exfalso
      have hp := of_decide_eq_true hp
      have : (u32 d (d.length - 4) : Int) < 1 := hp
      unfold cntOf at b3
      (walk_at "o")
    · intro _
      refine ss_nil ?_
      refine ss_cons ?_
      apply s_ifp
      · apply bp_cmp (hm := rfl)
        refine e_bin ?_
        refine e_int ?_
        refine e_bin ?_
        refine e_loc (mem_ix 4 rfl) rfl ?_
        refine e_int ?_
        refine o_add ?_
        refine o_mul (by walk_at "sc") ?_
        refine e_loc (mem_ix 3 rfl) rfl ?_
        refine c_gt ?_
        refine t_bool ⟨rfl, rfl⟩
      · intro hp
        exfalso
        have hp := of_decide_eq_true hp
        unfold cntOf at b4
        (walk_at "o")
      · intro _
        refine ss_nil ?_
        have e5 : (d.length : Int) - 4 * ((u32 d (d.length - 4) : Nat) + 1) = (limOf d : Int) := by
          unfold limOf; unfold cntOf at b4 ⊢; (walk_at "o")
        have e6 : u32 d (d.length - 4) = cntOf d := rfl
        refine ss_cons ?_
        refine s_setattr ?_ rfl
        refine e_bin ?_
        refine e_loc (mem_ix 3 rfl) rfl ?_
        refine e_bin ?_
        refine e_int ?_
        refine e_bin ?_
        refine e_loc (mem_ix 4 rfl) rfl ?_
        refine e_int ?_
        refine o_add ?_
        refine o_mul (by walk_at "o") ?_
        refine o_sub ?_
        rw [e5]
        refine e_loc (.head _) rfl ?_
        refine p_new (kcls263 G) (kfld263_limit G) (by walk_at "upd") (by walk_at "len") (by exact new263_2) ?_
        refine ss_cons ?_
        refine s_setattr ?_ rfl
        refine e_list rfl ?_
        refine sw_nil ⟨Nat.le_of_ble_eq_true rfl, fun _ => ?_⟩
        refine e_loc (.head _) rfl ?_
        refine p_new (kcls263 G) (kfld263_restarts G) (by walk_at "upd") (by walk_at "len") (by exact new263_3) ?_
        dsimp only
        rename_i rs
        rw [e6]
        refine ss_cons ?_
        refine FW.monoE (E := Ey c fun C σ' => subX (XIs 56 led) C σ'.led) ?_ fun _ _ z => z
        refine s_for_rangeX ho (fun k σ' => k ≤ r ∧ ∃ tv pv, σ' = ⟨[("self", .cst (.ref x)), ("data", .bytes d), ("order", .cst (.ref order)), ("size", .int d.length), ("count", .int (cntOf d : Nat)), ("turn", tv), ("place", pv)], [], [],
          (rs, .list (natsV (tabs d k))) :: (x, blkOb dx order rs d (limOf d)) :: led⟩) (cntOf d) (fun _ => rfl) (by walk_at "o") ?_ ?_ ?_
        · refine e_call ?_ rfl rfl
          refine e_gl F he g232_range (has_range G) ?_
          refine ⟨_, rfl, keep_type, ?_⟩
          refine sw_cons ?_
          refine e_loc (mem_ix 4 rfl) rfl ?_
          refine sw_nil ?_
          refine call_range fun _ => ?_
          exact ⟨_, _, rfl, rfl, Nat.zero_le _, .unset, .unset, rfl⟩
        · rintro k _ it hk ⟨hkr, tv, pv, rfl⟩
          refine ⟨_, .tail _ (.tail _ (.tail _ (.tail _ (.tail _ (.head _ _))))), ?_⟩
          have hkl : limOf d + 4 * k + 4 ≤ d.length := by unfold limOf; (walk_at "o")
          have e7 : (limOf d : Int) + 4 * k = ((limOf d + 4 * k : Nat) : Int) := by walk_at "o"
          unfold blkOb
          refine ss_cons ?_
          refine s_assign ?_ rfl
          refine e_call ?_ rfl rfl
          refine e_gl F he g232_read_fixed32 (has_read_fixed32 G) ?_
          refine ⟨_, rfl, (kkeep148 G), ?_⟩
          refine sw_cons ?_
          refine e_attr ?_ rfl
          refine e_loc (.head _) rfl ?_
          refine a_inst (by walk_at "mem") (kcls263 G) (kfld263_data G) (by exact nd263) (by exact (.head _)) handed_bytes ?_
          refine sw_cons ?_
          refine e_bin ?_
          refine e_attr ?_ rfl
          refine e_loc (.head _) rfl ?_
          refine a_inst (by walk_at "mem") (kcls263 G) (kfld263_limit G) (by exact nd263) (by exact (.tail _ (.tail _ (.head _)))) handed_int ?_
          refine e_bin ?_
          refine e_int ?_
          refine e_loc (mem_ix 5 rfl) rfl ?_
          refine o_mul (by walk_at "sc") ?_
          refine o_add ?_
          refine sw_nil ?_
          rw [e7]; refine FnS.callP (read_fixed32_spec G _ _ (by walk_at "o") (by walk_at "o") _) (by walk_at "o") ?_
          refine ⟨_, (.tail _ (.tail _ (.tail _ (.tail _ (.tail _ (.tail _ (.head _ _))))))), ?_⟩
          dsimp only
          have e8 : u32 d (limOf d + 4 * k) = tabOf d k := rfl
          rw [e8]
          have htl := tabs_length d k
          obtain ⟨t0, t1, t2, t3, t4⟩ := T
          refine ss_cut (fun σ' => k < r ∧ σ' = ⟨[("self", .cst (.ref x)), ("data", .bytes d), ("order", .cst (.ref order)), ("size", .int d.length), ("count", .int (cntOf d : Nat)), ("turn", .int k), ("place", .int (tabOf d k : Nat))], [], [],
            (it, .rit ((k : Int) + 1) ((cntOf d : Int) - k - 1)) :: (rs, .list (natsV (tabs d k))) :: (x, blkOb dx order rs d (limOf d)) :: led⟩) ?_ ?_
          · apply s_ifp
            · apply bp_cmp (hm := rfl)
              refine e_loc (mem_ix 5 rfl) rfl ?_
              refine e_int ?_
              refine c_eq ?_
              refine t_bool ⟨rfl, rfl⟩
            · intro hp
              have hp := of_decide_eq_true hp
              have hk0 : k = 0 := by walk_at "o"
              subst hk0
              refine ss_cons ?_
              apply s_ifp
              · apply bp_cmp (hm := rfl)
                refine e_loc (mem_ix 6 rfl) rfl ?_
                refine e_int ?_
                refine c_ne ?_
                refine t_bool ⟨rfl, rfl⟩
              · intro hq
                refine ss_cons ?_
                exact s_raise F he g232_Corrupt (has_Corrupt G) (kexc56 G) fun e s' R' => xis_ex R' (.skip (.skip (.skip (.refl _))))
              · intro hq
                have hq := of_decide_eq_false hq
                refine ss_nil ?_
                refine ss_nil ?_
                refine ⟨rfl, ?_, rfl⟩
                rcases Nat.eq_zero_or_pos r with q | q
                · exact absurd (t3 q) (by walk_at "o")
                · exact q
            · intro hp
              have hp := of_decide_eq_false hp
              obtain ⟨j, rfl⟩ : ∃ j, k = j + 1 := ⟨k - 1, by walk_at "o"⟩
              have e9 : (tabs d (j + 1)).getD (((j + 1 : Nat) : Int) - 1).toNat 0 = tabOf d j := by
                rw [show (((j + 1 : Nat) : Int) - 1).toNat = j by walk_at "o"]
                exact tabs_getD (by walk_at "o")
              refine ss_cons ?_
              apply s_ifp
              · apply bp_or
                · apply bp_cmp (hm := rfl)
                  refine e_loc (mem_ix 6 rfl) rfl ?_
                  refine e_sub ?_
                  refine e_attr ?_ rfl
                  refine e_loc (.head _) rfl ?_
                  refine a_inst (by walk_at "mem") (kcls263 G) (kfld263_restarts G) (by exact nd263) (by exact (mem_ix 3 rfl)) handed_ref ?_
                  refine e_bin ?_
                  refine e_loc (mem_ix 5 rfl) rfl ?_
                  refine e_int ?_
                  refine o_sub ?_
                  refine so_list (by walk_at "mem") (by walk_at "sc") (by walk_at "sc") (by walk_at "item") ?_
                  refine c_le ?_
                  refine t_bool ⟨rfl, rfl⟩
                · intro hp
                  walk_at "hp"
                  apply bp_cmp (hm := rfl)
                  refine e_loc (mem_ix 6 rfl) rfl ?_
                  refine e_attr ?_ rfl
                  refine e_loc (.head _) rfl ?_
                  refine a_inst (by walk_at "mem") (kcls263 G) (kfld263_limit G) (by exact nd263) (by exact (.tail _ (.tail _ (.head _)))) handed_int ?_
                  refine c_ge ?_
                  refine t_bool ⟨rfl, rfl⟩
              · intro hq
                refine ss_cons ?_
                exact s_raise F he g232_Corrupt (has_Corrupt G) (kexc56 G) fun e s' R' => xis_ex R' (.skip (.skip (.skip (.refl _))))
              · intro hq
                rw [e9] at hq
                simp only [Bool.or_eq_false_iff, decide_eq_false_iff_not] at hq
                refine ss_nil ?_
                refine ss_nil ?_
                refine ⟨rfl, ?_, rfl⟩
                rcases Nat.lt_or_ge (j + 1) r with q | q
                · exact q
                · exfalso
                  have er : j + 1 = r := by walk_at "o"
                  subst er
                  have := t4 (by walk_at "o")
                  rw [Nat.add_sub_cancel] at this
                  (walk_at "o")
          · rintro _ ⟨hkr2, rfl⟩
            unfold blkOb
            refine ss_cons ?_
            refine s_exprn ?_ rfl
            refine e_meth ?_ rfl rfl (by decide) rfl
            refine e_attr ?_ rfl
            refine e_loc (.head _) rfl ?_
            refine a_inst (by walk_at "mem") (kcls263 G) (kfld263_restarts G) (by exact nd263) (by exact (mem_ix 3 rfl)) handed_ref ?_
            refine mo_append (by walk_at "mem") ⟨keep_builtin, ?_⟩
            refine sw_cons ?_
            refine e_loc (mem_ix 6 rfl) rfl ?_
            refine sw_nil ?_
            refine call_append (by walk_at "upd") (by walk_at "sc") ?_
            refine ⟨trivial, ?_⟩
            refine ss_nil ?_
            refine ⟨_, .refl _, hkr2, .int k, .int (tabOf d k : Nat), ?_⟩
            rw [tabs_succ]
        · rintro _ ⟨hkr, tv, pv, rfl⟩
          exfalso
          have := T.lt
          (walk_at "o")
section
variable {g : Gx} {x dx b bx order rs kl vl : Addr} {d held : List UInt8} {n I : Nat} {pos : Nat → Nat} {key val : Nat → List UInt8} {rest : Led} {ks vs : List (List UInt8)}
theorem back0_spec (G : GH g) (L : Lay d n I pos key val) (h : BlkIn b bx order rs d rest) :
    FnS g 5 372 [.cst (.ref x)] ((x, stOb dx b order d I pos key 0) :: rest) (fun v led' => v = .none ∧ led' = (x, loOb dx b order d 0 (vaOf d (pos 0))) :: rest) NoX := by
  have hI : 0 < I := L.I0
  have hn0 := L.n0
  have hB := L.ok
  obtain ⟨b1, b2, b3, b4⟩ := hB
  have htl := tabs_length d (cntOf d)
  have hnl := natsV_length (tabs d (cntOf d))
  have h' := h
  obtain ⟨h1, h2⟩ := h
  unfold blkOb at h1
  have e0 : tabOf d 0 = pos 0 := by have := L.tab 0 (by walk_at "o"); rw [Nat.zero_mul] at this; exact this
  refine fnS (kfn372 G) loc372 noc372 clo372 rfl fun c hg hn he => ?_
  subst hg
  have F := kfn372 G
  show WSs c _ _ ⟨[("self", .cst (.ref x)), ("original", .unset), ("turn", .unset)], [], [], _⟩ _
  refine ss_cons ?_
  refine s_exprn ?_ rfl
  refine e_meth ?_ rfl rfl (by decide) rfl
  refine e_loc (.head _) rfl ?_
  refine mo_inst (.head _) (kcls375 G) (kmeth375_need G) (by exact nm375_need) ⟨kkeep295 G, ?_⟩
  refine sw_nil ?_
  refine FnS.callP (need_spec G (.head _) (h'.mono fun p hp => .tail _ hp) (L.lim (by walk_at "o"))) (by walk_at "o") ?_
  refine ⟨trivial, ?_⟩
  unfold stOb itOb
  refine ss_cons ?_
  refine s_assign ?_ rfl
  refine e_attr ?_ rfl
  refine e_loc (.head _) rfl ?_
  refine a_inst (by walk_at "mem") (kcls375 G) (kfld375_current G) (by exact nd375) (by exact (.tail _ (.tail _ (.head _)))) handed_int ?_
  refine ⟨_, (.tail _ (.head _ _)), ?_⟩
  refine ss_cons ?_
  refine s_assign ?_ rfl
  refine e_attr ?_ rfl
  refine e_loc (.head _) rfl ?_
  refine a_inst (by walk_at "mem") (kcls375 G) (kfld375_turn G) (by exact nd375) (by exact (mem_ix 4 rfl)) handed_int ?_
  refine ⟨_, (.tail _ (.tail _ (.head _ _))), ?_⟩
  dsimp only
  have e1 : (0 / I : Nat) = 0 := Nat.zero_div I
  rw [e1]
  have e2 : (tabs d (cntOf d)).getD (((0 : Nat) : Int)).toNat 0 = pos 0 := by rw [toNat_cast, tabs_getD (by walk_at "o"), e0]
  refine ss_cons ?_
  refine s_whilep (fun m σ' => σ' = ⟨[("self", .cst (.ref x)), ("original", .int (pos 0 : Nat)), ("turn", .int (0 : Nat))], [], [], (x, stOb dx b order d I pos key 0) :: rest⟩) ?_ 0 (by unfold stOb itOb; rw [e1])
  rintro m _ rfl
  unfold stOb itOb
  refine ⟨decide ((pos 0 : Int) ≤ (((tabs d (cntOf d)).getD (((0 : Nat) : Int)).toNat 0 : Nat) : Int)), ?_, ?_, ?_⟩
  · apply bp_cmp (hm := rfl)
    refine e_sub ?_
    refine e_attr ?_ rfl
    refine e_attr ?_ rfl
    refine e_loc (.head _) rfl ?_
    refine a_inst (by walk_at "mem") (kcls375 G) (kfld375_block G) (by exact nd375) (by exact (.head _)) handed_ref ?_
    refine a_inst (by walk_at "mem") (kcls263 G) (kfld263_restarts G) (by exact nd263) (by exact (mem_ix 3 rfl)) handed_ref ?_
    refine e_loc (.tail _ (.tail _ (.head _))) rfl ?_
    refine so_list (by walk_at "mem") (by walk_at "sc") (by walk_at "sc") (by walk_at "item") ?_
    refine e_loc (.tail _ (.head _)) rfl ?_
    refine c_ge ?_
    refine t_bool ⟨rfl, rfl⟩
  · intro _
    refine ss_cons ?_
    apply s_ifp
    · apply bp_cmp (hm := rfl)
      refine e_loc (.tail _ (.tail _ (.head _))) rfl ?_
      refine e_int ?_
      refine c_eq ?_
      refine t_bool ⟨rfl, rfl⟩
    · intro _
      refine ss_cons ?_
      refine s_exprn ?_ rfl
      refine e_meth ?_ rfl rfl (by decide) rfl
      refine e_loc (.head _) rfl ?_
      refine mo_inst (.head _) (kcls375 G) (kmeth375_lose G) (by exact nm375_lose) ⟨kkeep288 G, ?_⟩
      refine sw_nil ?_
      refine FnS.callP (lose_spec (dx := dx) (cur := pos 0) (ahead := pos (0 + 1)) (turn := 0 / I) (held := key 0) (vf := vaOf d (pos 0)) G h') (by walk_at "o") ?_
      refine ⟨trivial, ?_⟩
      refine ss_cons ?_
      refine s_ret0 ?_
      refine ⟨_, .refl _, rfl, ?_⟩
      rw [e1]
      rfl
    · intro hq
      exfalso
      have hq := of_decide_eq_false hq
      (walk_at "o")
  · intro hp
    exfalso
    have hp := of_decide_eq_false hp
    rw [e2] at hp
    (walk_at "o")
noncomputable def At (dx b order : Addr) (d : List UInt8) (n I : Nat) (pos : Nat → Nat) (key : Nat → List UInt8) (at_ : Int) (o : Ob) : Prop :=
  (∃ i : Nat, at_ = i ∧ i < n ∧ o = stOb dx b order d I pos key i) ∨ ((at_ < 0 ∨ (n : Int) ≤ at_) ∧ ∃ t vf, o = loOb dx b order d t vf)
noncomputable def mvd (n : Nat) (at_ : Int) (back : Bool) : Int := if at_ < 0 ∨ (n : Int) ≤ at_ then at_ else if back then at_ - 1 else at_ + 1
structure Kept (n : Nat) (key val : Nat → List UInt8) (kl vl : Addr) (ks vs : List (List UInt8)) (led : Led) : Prop where
  kl : (kl, Ob.list (bytesV ks)) ∈ led
  vl : (vl, Ob.list (bytesV vs)) ∈ led
  kn : ks.length = n
  vn : vs.length = n
  n0 : n ≤ 1000
  ke : ∀ i, i < n → ks.getD i [] = key i
  ve : ∀ i, i < n → vs.getD i [] = val i
theorem Kept.mono {led led' : Led} (h : Kept n key val kl vl ks vs led) (k : ∀ p ∈ led, p ∈ led') : Kept n key val kl vl ks vs led' := { h with kl := k _ h.kl, vl := k _ h.vl }
theorem law_stands_at (G : GH g) (L : Lay d n I pos key val) {led : Led} (h : BlkIn b bx order rs d led) (K : Kept n key val kl vl ks vs led) {at_ : Int} {o : Ob} (hA : At dx b order d n I pos key at_ o) (hx : (x, o) ∈ led) :
    FnS g 3 569 [.cst (.ref x), .cst (.ref kl), .cst (.ref vl), .int at_] led (fun r led' => r = .bool true ∧ led' = led) NoX := by
  rcases hA with ⟨i, rfl, hi, rfl⟩ | ⟨ho, t, vf, rfl⟩
  · exact law_stands_spec G L h hi hx K.kl K.vl K.kn K.vn K.n0 (K.ke i hi) (K.ve i hi)
  · intro c σ s A us hg R hl hA hr hv
    exact law_stands_out_spec G h hx K.kl (by have := K.kn; have := K.n0; (walk_at "o")) at_ (by rw [K.kn]; exact ho) _ c σ s A us hg R hl hA (hr.le (by walk_at "o")) hv
end
theorem FW.sub {c : Fx} {E : Value → Shared → Prop} {σ : St} {t : Sem Flow} {Q : Fl → St → Prop} {led' : Led} (hs : Sub σ.led led') (h : FW c E t { σ with led := led' } Q) : FW c E t σ Q := fun s R => h s (R.sub hs)
theorem ss_sub {c : Fx} {E : Value → Shared → Prop} {loc : List (Str × V)} {glo : List (Str × V)} {cel : List (Str × Addr)} {led led' : Led} {sts : List Stmt} {Q : Fl → St → Prop} (hs : Sub led led') (h : WSs c E sts ⟨loc, glo, cel, led'⟩ Q) : WSs c E sts ⟨loc, glo, cel, led⟩ Q := FW.sub (σ := ⟨loc, glo, cel, led⟩) hs h
section
variable {g : Gx} {x dx b bx order rs kl vl : Addr} {d held : List UInt8} {n I : Nat} {pos : Nat → Nat} {key val : Nat → List UInt8} {rest : Led} {ks vs : List (List UInt8)}
theorem law_moved_in (G : GH g) (L : Lay d n I pos key val) (h : BlkIn b bx order rs d rest) (K : Kept n key val kl vl ks vs rest) {i : Nat} (hi : i < n) {bk : Int} (hb : bk = 0 ∨ bk = 1) :
    FnS g 6 576 [.cst (.ref x), .cst (.ref kl), .cst (.ref vl), .int i, .int bk] ((x, stOb dx b order d I pos key i) :: rest)
      (fun v led' => v = .int ((i : Int) + 1 - 2 * bk) ∧ ∃ o, At dx b order d n I pos key ((i : Int) + 1 - 2 * bk) o ∧ led' = (x, o) :: rest) NoX := by
  have hkl := K.kl
  have hkn := K.kn
  have hn0 := K.n0
  have hnl := bytesV_length ks
  refine fnS (kfn576 G) loc576 noc576 clo576 rfl fun c hg hn he => ?_
  subst hg
  have F := kfn576 G
  show WSs c _ _ ⟨[("walker", .cst (.ref x)), ("keys", .cst (.ref kl)), ("values", .cst (.ref vl)), ("at", .int i), ("back", .int bk), ("moved", .unset), ("refused", .unset)], [], [], _⟩ _
  refine ss_cons ?_
  refine s_assign ?_ rfl
  refine e_bin ?_
  refine e_bin ?_
  refine e_loc (mem_ix 3 rfl) rfl ?_
  refine e_int ?_
  refine o_add ?_
  refine e_bin ?_
  refine e_int ?_
  refine e_loc (mem_ix 4 rfl) rfl ?_
  refine o_mul (by walk_at "sc") ?_
  refine o_sub ?_
  refine ⟨_, (.tail _ (.tail _ (.tail _ (.tail _ (.tail _ (.head _ _)))))), ?_⟩
  refine ss_cons ?_
  refine s_assign ?_ rfl
  refine e_bool ?_
  refine ⟨_, (.tail _ (.tail _ (.tail _ (.tail _ (.tail _ (.tail _ (.head _ _))))))), ?_⟩
  dsimp only
  refine ss_cut (fun σ' => ∃ o, At dx b order d n I pos key ((i : Int) + 1 - 2 * bk) o ∧ σ' = ⟨[("walker", .cst (.ref x)), ("keys", .cst (.ref kl)), ("values", .cst (.ref vl)), ("at", .int i), ("back", .int bk), ("moved", .int ((i : Int) + 1 - 2 * bk)), ("refused", .bool false)], [], [], (x, o) :: rest⟩) ?_ ?_
  · refine s_try0 ?_
    refine ss_cons ?_
    apply s_ifp
    · apply bp_cmp (hm := rfl)
      refine e_loc (mem_ix 4 rfl) rfl ?_
      refine e_int ?_
      refine c_eq ?_
      refine t_bool ⟨rfl, rfl⟩
    · intro hp
      have hp := of_decide_eq_true hp
      refine ss_cons ?_
      refine s_exprn ?_ rfl
      refine e_meth ?_ rfl rfl (by decide) rfl
      refine e_loc (.head _) rfl ?_
      refine mo_inst (.head _) (kcls375 G) (kmeth375_back G) (by exact nm375_back) ⟨kkeep372 G, ?_⟩
      refine sw_nil ?_
      rcases Nat.eq_zero_or_pos i with q | q
      · subst q
        refine FnS.callP (back0_spec G L h) (by walk_at "o") ?_
        refine ⟨trivial, ?_⟩
        refine ss_nil ?_
        refine ss_nil ?_
        refine ss_nil ?_
        exact ⟨rfl, _, .inr ⟨.inl (by walk_at "o"), _, _, rfl⟩, rfl⟩
      · refine FnS.callP (back_spec G L h hi q) (by walk_at "o") ?_
        refine ⟨trivial, ?_⟩
        refine ss_nil ?_
        refine ss_nil ?_
        refine ss_nil ?_
        exact ⟨rfl, _, .inl ⟨i - 1, by walk_at "o", by walk_at "o", rfl⟩, rfl⟩
    · intro hp
      have hp := of_decide_eq_false hp
      refine ss_cons ?_
      refine s_exprn ?_ rfl
      refine e_meth ?_ rfl rfl (by decide) rfl
      refine e_loc (.head _) rfl ?_
      refine mo_inst (.head _) (kcls375 G) (kmeth375_step G) (by exact nm375_step) ⟨kkeep365 G, ?_⟩
      refine sw_nil ?_
      refine FnS.callP (step_spec G L h hi) (by walk_at "o") ?_
      refine ⟨trivial, ?_⟩
      refine ss_nil ?_
      refine ss_nil ?_
      refine ss_nil ?_
      refine ⟨rfl, _, ?_, rfl⟩
      by_cases q : i + 1 < n
      · rw [if_pos q]; exact .inl ⟨i + 1, by walk_at "o", q, rfl⟩
      · rw [if_neg q]; exact .inr ⟨.inr (by walk_at "o"), _, _, rfl⟩
  · rintro _ ⟨o, hA, rfl⟩
    refine ss_cons ?_
    apply s_ifp
    · apply bp_or
      · apply bp_cmp (hm := rfl)
        refine e_loc (mem_ix 3 rfl) rfl ?_
        refine e_int ?_
        refine c_lt ?_
        refine t_bool ⟨rfl, rfl⟩
      · intro hp
        walk_at "hp"
        apply bp_cmp (hm := rfl)
        refine e_loc (mem_ix 3 rfl) rfl ?_
        refine e_call ?_ rfl rfl
        refine e_gl F he g576_len (has_len G) ?_
        refine ⟨_, rfl, keep_builtin, ?_⟩
        refine sw_cons ?_
        refine e_loc (.tail _ (.head _)) rfl ?_
        refine sw_nil ?_
        refine call_lenL (by walk_at "mem") (by walk_at "sc") ?_
        refine c_ge ?_
        refine t_bool ⟨rfl, rfl⟩
    · intro hp
      exfalso
      simp only [Bool.or_eq_true, decide_eq_true_eq] at hp
      (walk_at "o")
    · intro _
      refine ss_nil ?_
      refine ss_cons ?_
      refine s_ifp (p := false || !true) ?_ (fun hp => absurd hp (by decide)) ?_
      · refine bp_or ?_ fun _ => ?_
        · apply bp_cmp (hm := rfl)
          refine e_loc (mem_ix 6 rfl) rfl ?_
          refine e_or ?_
          refine e_cmp ?_ rfl
          refine e_loc (mem_ix 3 rfl) rfl ?_
          refine e_int ?_
          refine c_lt ?_
          refine t_bool ⟨fun _ => ?_, fun hq => by have hq := of_decide_eq_true hq; (walk_at "o")⟩
          refine e_cmp ?_ rfl
          refine e_loc (mem_ix 3 rfl) rfl ?_
          refine e_call ?_ rfl rfl
          refine e_gl F he g576_len (has_len G) ?_
          refine ⟨_, rfl, keep_builtin, ?_⟩
          refine sw_cons ?_
          refine e_loc (.tail _ (.head _)) rfl ?_
          refine sw_nil ?_
          refine call_lenL (.tail _ hkl) (by walk_at "o") ?_
          refine c_ge ?_
          refine c_neb ?_
          refine t_bool ⟨rfl, ?_⟩
          rw [decide_eq_false (by walk_at "o")]
          rfl
        · apply bp_not
          apply bp_plain (hp := rfl)
          refine e_call ?_ rfl rfl
          refine e_gl F he g576__law_stands (has__law_stands G) ?_
          refine ⟨_, rfl, kkeep569 G, ?_⟩
          refine sw_cons ?_
          refine e_loc (.head _) rfl ?_
          refine sw_cons ?_
          refine e_loc (.tail _ (.head _)) rfl ?_
          refine sw_cons ?_
          refine e_loc (.tail _ (.tail _ (.head _))) rfl ?_
          refine sw_cons ?_
          refine e_loc (mem_ix 5 rfl) rfl ?_
          refine sw_nil ?_
          refine FnS.callP (law_stands_at G L (h.mono fun p hp => .tail _ hp) (K.mono fun p hp => .tail _ hp) hA (.head _)) (by walk_at "o") ?_
          exact t_bool ⟨rfl, rfl⟩
      · intro _
        refine ss_nil ?_
        refine ss_cons ?_
        refine s_ret ?_
        refine e_loc (mem_ix 5 rfl) rfl ?_
        exact ⟨_, .refl _, rfl, o, hA, rfl⟩
theorem law_moved_out (G : GH g) (L : Lay d n I pos key val) (h : BlkIn b bx order rs d rest) (K : Kept n key val kl vl ks vs rest) {at_ : Int} (ho : at_ < 0 ∨ (n : Int) ≤ at_) {bk : Int} {o : Ob} (hA : At dx b order d n I pos key at_ o) :
    FnS g 6 576 [.cst (.ref x), .cst (.ref kl), .cst (.ref vl), .int at_, .int bk] ((x, o) :: rest) (fun v led' => v = .int at_ ∧ led' = (x, o) :: rest) NoX := by
  have hkl := K.kl
  have hkn := K.kn
  have hn0 := K.n0
  have hnl := bytesV_length ks
  obtain ⟨t, vf, rfl⟩ : ∃ t vf, o = loOb dx b order d t vf := by
    rcases hA with ⟨i, rfl, hi, _⟩ | ⟨_, t, vf, e⟩
    · (walk_at "o")
    · exact ⟨t, vf, e⟩
  refine fnSX (kfn576 G) loc576 noc576 clo576 rfl fun c hg hn hown he => ?_
  subst hg
  have F := kfn576 G
  show WSs c _ _ ⟨[("walker", .cst (.ref x)), ("keys", .cst (.ref kl)), ("values", .cst (.ref vl)), ("at", .int at_), ("back", .int bk), ("moved", .unset), ("refused", .unset)], [], [], _⟩ _
  refine ss_cons ?_
  refine s_assign ?_ rfl
  refine e_bin ?_
  refine e_bin ?_
  refine e_loc (mem_ix 3 rfl) rfl ?_
  refine e_int ?_
  refine o_add ?_
  refine e_bin ?_
  refine e_int ?_
  refine e_loc (mem_ix 4 rfl) rfl ?_
  refine o_mul (by walk_at "sc") ?_
  refine o_sub ?_
  refine ⟨_, (.tail _ (.tail _ (.tail _ (.tail _ (.tail _ (.head _ _)))))), ?_⟩
  refine ss_cons ?_
  refine s_assign ?_ rfl
  refine e_bool ?_
  refine ⟨_, (.tail _ (.tail _ (.tail _ (.tail _ (.tail _ (.tail _ (.head _ _))))))), ?_⟩
  dsimp only
  refine ss_cut (fun σ' => ∃ mv led0, Sub led0 ((x, loOb dx b order d t vf) :: rest) ∧ σ' = ⟨[("walker", .cst (.ref x)), ("keys", .cst (.ref kl)), ("values", .cst (.ref vl)), ("at", .int at_), ("back", .int bk), ("moved", mv), ("refused", .bool true)], [], [], led0⟩) ?_ ?_
  · refine s_try_catch (Y := fun σ' => σ' = ⟨[("walker", .cst (.ref x)), ("keys", .cst (.ref kl)), ("values", .cst (.ref vl)), ("at", .int at_), ("back", .int bk), ("moved", .int (at_ + 1 - 2 * bk)), ("refused", .bool false)], [], [], (x, loOb dx b order d t vf) :: rest⟩) F he g576_IterMisuse (has_IterMisuse G) (kexc92 G) hown ?_ ?_
    · refine ss_cons ?_
      have hX : ∀ (σ : St) e s', σ = ⟨[("walker", .cst (.ref x)), ("keys", .cst (.ref kl)), ("values", .cst (.ref vl)), ("at", .int at_), ("back", .int bk), ("moved", .int (at_ + 1 - 2 * bk)), ("refused", .bool false)], [], [], (x, loOb dx b order d t vf) :: rest⟩ → Rz c σ (XIs 92 σ.led) e s' →
          Ey c (fun C' σ' => C' = 92 ∧ σ' = ⟨[("walker", .cst (.ref x)), ("keys", .cst (.ref kl)), ("values", .cst (.ref vl)), ("at", .int at_), ("back", .int bk), ("moved", .int (at_ + 1 - 2 * bk)), ("refused", .bool false)], [], [], (x, loOb dx b order d t vf) :: rest⟩) e s' := by
        rintro σ e s' rfl ⟨C, led', hx, _, rfl, rfl⟩
        exact ⟨92, _, hx, rfl, rfl⟩
      apply s_ifp
      · apply bp_cmp (hm := rfl)
        refine e_loc (mem_ix 4 rfl) rfl ?_
        refine e_int ?_
        refine c_eq ?_
        refine t_bool ⟨rfl, rfl⟩
      · intro hp
        refine ss_cons ?_
        refine s_exprn ?_ rfl
        refine e_meth ?_ rfl rfl (by decide) rfl
        refine e_loc (.head _) rfl ?_
        refine mo_inst (.head _) (kcls375 G) (kmeth375_back G) (by exact nm375_back) ⟨kkeep372 G, ?_⟩
        refine sw_nil ?_
        exact FnS.call (led := (x, loOb dx b order d t vf) :: rest) (back_raise_spec G (.head _) (h.mono fun p hp => .tail _ hp) (Nat.le_refl _)) (by walk_at "o") (fun e s' z => hX _ e s' rfl z) fun _ _ q => q.elim
      · intro hp
        refine ss_cons ?_
        refine s_exprn ?_ rfl
        refine e_meth ?_ rfl rfl (by decide) rfl
        refine e_loc (.head _) rfl ?_
        refine mo_inst (.head _) (kcls375 G) (kmeth375_step G) (by exact nm375_step) ⟨kkeep365 G, ?_⟩
        refine sw_nil ?_
        exact FnS.call (led := (x, loOb dx b order d t vf) :: rest) (step_raise_spec G (.head _) (h.mono fun p hp => .tail _ hp) (Nat.le_refl _)) (by walk_at "o") (fun e s' z => hX _ e s' rfl z) fun _ _ q => q.elim
    · rintro _ e t' rfl
      exact suite_setb (.tail _ (.tail _ (.tail _ (.tail _ (.tail _ (.tail _ (.head _ _))))))) ⟨rfl, _, _, .skip (.refl _), rfl⟩ rfl
  · rintro _ ⟨mv, led0, hs, rfl⟩
    refine ss_sub hs ?_
    refine ss_cut (fun σ' => σ' = ⟨[("walker", .cst (.ref x)), ("keys", .cst (.ref kl)), ("values", .cst (.ref vl)), ("at", .int at_), ("back", .int bk), ("moved", .int at_), ("refused", .bool true)], [], [], (x, loOb dx b order d t vf) :: rest⟩) ?_ ?_
    · apply s_ifp
      · apply bp_or
        · apply bp_cmp (hm := rfl)
          refine e_loc (mem_ix 3 rfl) rfl ?_
          refine e_int ?_
          refine c_lt ?_
          refine t_bool ⟨rfl, rfl⟩
        · intro hp
          walk_at "hp"
          apply bp_cmp (hm := rfl)
          refine e_loc (mem_ix 3 rfl) rfl ?_
          refine e_call ?_ rfl rfl
          refine e_gl F he g576_len (has_len G) ?_
          refine ⟨_, rfl, keep_builtin, ?_⟩
          refine sw_cons ?_
          refine e_loc (.tail _ (.head _)) rfl ?_
          refine sw_nil ?_
          refine call_lenL (by walk_at "mem") (by walk_at "sc") ?_
          refine c_ge ?_
          refine t_bool ⟨rfl, rfl⟩
      · intro _
        refine ss_cons ?_
        refine s_assign ?_ rfl
        refine e_loc (mem_ix 3 rfl) rfl ?_
        refine ⟨_, (.tail _ (.tail _ (.tail _ (.tail _ (.tail _ (.head _ _)))))), ?_⟩
        refine ss_nil ?_
        exact ⟨rfl, rfl⟩
      · intro hp
        exfalso
        simp only [Bool.or_eq_false_iff, decide_eq_false_iff_not] at hp
        (walk_at "o")
    · rintro _ rfl
      refine ss_cons ?_
      refine s_ifp (p := false || !true) ?_ (fun hp => absurd hp (by decide)) ?_
      · refine bp_or ?_ fun _ => ?_
        · apply bp_cmp (hm := rfl)
          refine e_loc (mem_ix 6 rfl) rfl ?_
          refine e_or ?_
          refine e_cmp ?_ rfl
          refine e_loc (mem_ix 3 rfl) rfl ?_
          refine e_int ?_
          refine c_lt ?_
          refine t_bool ⟨fun hq => ?_, fun hq => ?_⟩
          · refine e_cmp ?_ rfl
            refine e_loc (mem_ix 3 rfl) rfl ?_
            refine e_call ?_ rfl rfl
            refine e_gl F he g576_len (has_len G) ?_
            refine ⟨_, rfl, keep_builtin, ?_⟩
            refine sw_cons ?_
            refine e_loc (.tail _ (.head _)) rfl ?_
            refine sw_nil ?_
            refine call_lenL (.tail _ hkl) (by walk_at "o") ?_
            refine c_ge ?_
            refine c_neb ?_
            refine t_bool ⟨rfl, ?_⟩
            have hq := of_decide_eq_false hq
            rw [decide_eq_true (by walk_at "o")]
            rfl
          · refine c_neb ?_
            refine t_bool ⟨rfl, ?_⟩
            rw [hq]
            rfl
        · apply bp_not
          apply bp_plain (hp := rfl)
          refine e_call ?_ rfl rfl
          refine e_gl F he g576__law_stands (has__law_stands G) ?_
          refine ⟨_, rfl, kkeep569 G, ?_⟩
          refine sw_cons ?_
          refine e_loc (.head _) rfl ?_
          refine sw_cons ?_
          refine e_loc (.tail _ (.head _)) rfl ?_
          refine sw_cons ?_
          refine e_loc (.tail _ (.tail _ (.head _))) rfl ?_
          refine sw_cons ?_
          refine e_loc (mem_ix 5 rfl) rfl ?_
          refine sw_nil ?_
          refine FnS.callP (law_stands_at G L (h.mono fun p hp => .tail _ hp) (K.mono fun p hp => .tail _ hp) hA (.head _)) (by walk_at "o") ?_
          exact t_bool ⟨rfl, rfl⟩
      · intro _
        refine ss_nil ?_
        refine ss_cons ?_
        refine s_ret ?_
        refine e_loc (mem_ix 5 rfl) rfl ?_
        exact ⟨_, .refl _, rfl, rfl⟩
end
theorem mo_at {c : Fx} {E : Value → Shared → Prop} {σ : St} {dx b order : Addr} {d : List UInt8} {n I : Nat} {pos : Nat → Nat} {key : Nat → List UInt8} {at_ : Int} {o : Ob} {x f : Addr} {name : Str} {Q : Value → List V → Prop} (hA : At dx b order d n I pos key at_ o) (hx : (x, o) ∈ σ.led) (G : GH c.g) (hm : MethOk c.g.K 375 name f)
    (hn : name ∉ ([("block" : Str), ("order" : Str), ("current" : Str), ("ahead" : Str), ("turn" : Str), ("held_key" : Str), ("value_from" : Str)] : List Str)) (q : Q (.ref f) [.cst (.ref x)]) : MO c E (.cst (.ref x)) name σ Q := by
  rcases hA with ⟨i, _, _, rfl⟩ | ⟨_, t, vf, rfl⟩
  · unfold stOb itOb at hx
    exact mo_inst hx (kcls375 G) hm hn q
  · unfold loOb itOb at hx
    exact mo_inst hx (kcls375 G) hm hn q
structure Spots (n : Nat) (internal : Bool) (sp : List Nat) (key : Nat → List UInt8) : Prop where
  len : sp.length = n
  n1 : 1 ≤ n
  n2 : n ≤ 1000
  rise : ∀ i j, i < j → j < n → sp.getD i 0 < sp.getD j 0
  low : ∀ i, i < n → 1 ≤ sp.getD i 0
  high : ∀ i, i < n → sp.getD i 0 < 16000
  key : ∀ i, i < n → key i = lkey internal (sp.getD i 0) 0
theorem tgt_of {n : Nat} {internal : Bool} {sp : List Nat} {key : Nat → List UInt8} (S : Spots n internal sp key) {t h p : Nat} (ht : t < 16000) (hh : h ≤ 1) (hp : p ≤ n) (lo : ∀ i, i < p → 2 * sp.getD i 0 < 2 * t + h) (hi : ∀ i, p ≤ i → i < n → 2 * t + h ≤ 2 * sp.getD i 0) :
    Tgt n key internal (lkey internal t h) p where
  le := hp
  lo := fun i h1 => by
    have b1 := S.high i (by walk_at "o")
    rw [S.key i (by walk_at "o"), (lkey_lt internal (v := sp.getD i 0) (v' := t) (h := 0) (h' := h) (by walk_at "o") (by walk_at "o") (by walk_at "o") hh (by have := lo i h1; (walk_at "o"))).1]
    decide
  hi := fun i h1 h2 => by
    have b1 := S.high i h2
    have b2 := hi i h1 h2
    rw [S.key i h2]
    rcases Nat.lt_or_ge (2 * t + h) (2 * sp.getD i 0) with q | q
    · rw [(lkey_lt internal (v := t) (v' := sp.getD i 0) (h := h) (h' := 0) (by walk_at "o") (by walk_at "o") hh (by walk_at "o") (by walk_at "o")).2]
      decide
    · have e : h = 0 := by walk_at "o"
      subst e
      rw [show sp.getD i 0 = t by walk_at "o", lkey_eq]
      decide
  eq := fun i h1 h2 => by
    have b1 := S.high i h1
    rw [S.key i h1] at h2
    rcases Nat.lt_or_ge i p with q | q
    · rw [(lkey_lt internal (v := sp.getD i 0) (v' := t) (h := 0) (h' := h) (by walk_at "o") (by walk_at "o") (by walk_at "o") hh (by have := lo i q; (walk_at "o"))).1] at h2
      exact absurd h2 (by decide)
    · rcases Nat.lt_or_ge p i with r | r
      · have b2 := hi p (Nat.le_refl _) (by walk_at "o")
        have b3 := S.rise p i r h1
        rw [(lkey_lt internal (v := t) (v' := sp.getD i 0) (h := h) (h' := 0) (by walk_at "o") (by walk_at "o") hh (by walk_at "o") (by walk_at "o")).2] at h2
        exact absurd h2 (by decide)
      · (walk_at "o")
  kt := lkey_ok internal t h hh
  kk := fun i h1 => by rw [S.key i h1]; exact lkey_ok internal _ 0 (by walk_at "o")
theorem Spots.mono {n : Nat} {internal : Bool} {sp : List Nat} {key : Nat → List UInt8} (S : Spots n internal sp key) {i j : Nat} (h : i ≤ j) (hj : j < n) : sp.getD i 0 ≤ sp.getD j 0 := by
  rcases Nat.lt_or_ge i j with q | q
  · exact Nat.le_of_lt (S.rise i j q hj)
  · rw [show i = j by walk_at "o"]; exact Nat.le_refl _
theorem tgt1 {n : Nat} {internal : Bool} {sp : List Nat} {key : Nat → List UInt8} (S : Spots n internal sp key) {j : Nat} (hj : j < n) : Tgt n key internal (lkey internal (sp.getD j 0) 1) (j + 1) :=
  tgt_of S (S.high j hj) (Nat.le_refl _) (by walk_at "o") (fun i h => by have := S.mono (i := i) (j := j) (by walk_at "o") hj; (walk_at "o")) fun i h h2 => by have := S.rise j i (by walk_at "o") h2; (walk_at "o")
theorem tgt0 {n : Nat} {internal : Bool} {sp : List Nat} {key : Nat → List UInt8} (S : Spots n internal sp key) {j : Nat} (hj : j < n) : Tgt n key internal (lkey internal (sp.getD j 0) 0) j :=
  tgt_of S (S.high j hj) (Nat.zero_le _) (by walk_at "o") (fun i h => by have := S.rise i j h hj; (walk_at "o")) fun i h h2 => by have := S.mono (i := j) (j := i) h h2; (walk_at "o")
theorem tgtm {n : Nat} {internal : Bool} {sp : List Nat} {key : Nat → List UInt8} (S : Spots n internal sp key) {j : Nat} (hj : j < n) (h0 : 0 < j) (e : sp.getD (j - 1) 0 = sp.getD j 0 - 1) : Tgt n key internal (lkey internal (sp.getD j 0 - 1) 0) (j - 1) := by
  rw [← e]; exact tgt0 S (by walk_at "o")
theorem tgtm' {n : Nat} {internal : Bool} {sp : List Nat} {key : Nat → List UInt8} (S : Spots n internal sp key) {j : Nat} (hj : j < n) (e : 0 < j → sp.getD (j - 1) 0 ≠ sp.getD j 0 - 1) : Tgt n key internal (lkey internal (sp.getD j 0 - 1) 0) j :=
  tgt_of S (by have := S.high j hj; (walk_at "o")) (Nat.zero_le _) (by walk_at "o") (fun i h => by
    have b1 := S.mono (i := i) (j := j - 1) (by walk_at "o") (by walk_at "o")
    have b2 := S.rise (j - 1) j (by walk_at "o") hj
    have b3 := e (by walk_at "o")
    (walk_at "o")) fun i h h2 => by have := S.mono (i := j) (j := i) h h2; have := S.low j hj; (walk_at "o")
section
variable {g : Gx} {x dx b bx order rs sl : Addr} {d held : List UInt8} {n I : Nat} {pos : Nat → Nat} {key val : Nat → List UInt8} {rest : Led} {internal : Bool} {target : List UInt8} {p : Nat} {sp : List Nat}
theorem seek_at (G : GH g) (L : Lay d n I pos key val) (T : Tgt n key internal target p) (h : BlkIn b bx order rs d rest) (hO : OrdIn order internal rest) {at_ : Int} {o : Ob} (hA : At dx b order d n I pos key at_ o) :
    FnS g 6 351 [.cst (.ref x), .bytes target] ((x, o) :: rest) (fun v led' => v = .none ∧ ∃ o', At dx b order d n I pos key p o' ∧ led' = (x, o') :: rest) NoX := by
  have key' : FnS g 6 351 [.cst (.ref x), .bytes target] ((x, o) :: rest) (fun v led' => v = .none ∧ ∃ t vf, led' = (x, if p < n then stOb dx b order d I pos key p else loOb dx b order d t vf) :: rest) NoX := by
    rcases hA with ⟨i, _, hi, rfl⟩ | ⟨_, t, vf, rfl⟩
    · exact seek_spec G L T h hO (.inl ⟨i, hi, rfl, rfl, rfl, rfl, rfl⟩) (by have := L.klen i hi; (walk_at "o"))
    · exact seek_spec G L T h hO (.inr rfl) (Nat.zero_le _)
  intro c σ s A us hg R hl hA hr hv
  refine wpS_mono (key' c σ s A us hg R hl hA hr hv) (fun u s' zq => ?_) fun _ _ z => z
  obtain ⟨v, led', R', hv', e, t, vf, e'⟩ := zq
  refine ⟨v, led', R', hv', e, _, ?_, e'⟩
  by_cases q : p < n
  · rw [if_pos q]; exact .inl ⟨p, rfl, q, rfl⟩
  · rw [if_neg q]; exact .inr ⟨.inr (by walk_at "o"), t, vf, rfl⟩
theorem law_sought_spec (G : GH g) (L : Lay d n I pos key val) (S : Spots n internal sp key) (h : BlkIn b bx order rs d rest) (hO : OrdIn order internal rest) (hs : (sl, Ob.list (natsV sp)) ∈ rest) {at_ : Int} {o : Ob} (hA : At dx b order d n I pos key at_ o)
    (z : Nat) (way : Int) (hw : 0 ≤ way) :
    FnS g 7 583 [.cst (.ref x), .cst (.ref sl), .int z, .int way, .int at_, .bool internal] ((x, o) :: rest) (fun v led' => ∃ p : Nat, p ≤ n ∧ v = .int p ∧ ∃ o', At dx b order d n I pos key p o' ∧ led' = (x, o') :: rest) NoX := by
  have hn1 := S.n1
  have hn2 := S.n2
  have hsl := S.len
  have hnl := natsV_length sp
  refine fnS (kfn583 G) loc583 noc583 clo583 rfl fun c hg hn he => ?_
  subst hg
  have F := kfn583 G
  show WSs c _ _ ⟨[("walker", .cst (.ref x)), ("spots", .cst (.ref sl)), ("z", .int z), ("way", .int way), ("at", .int at_), ("internal", .bool internal), ("j", .unset)], [], [], _⟩ _
  refine ss_cons ?_
  refine s_assign ?_ rfl
  refine e_bin ?_
  refine e_bin ?_
  refine e_loc (.tail _ (.tail _ (.head _))) rfl ?_
  refine e_int ?_
  refine o_div (by walk_at "sc") (by walk_at "sc") ?_
  refine e_call ?_ rfl rfl
  refine e_gl F he g583_len (has_len G) ?_
  refine ⟨_, rfl, keep_builtin, ?_⟩
  refine sw_cons ?_
  refine e_loc (.tail _ (.head _)) rfl ?_
  refine sw_nil ?_
  refine call_lenL (by walk_at "mem") (by walk_at "sc") ?_
  refine o_mod (by walk_at "sc") ?_
  refine ⟨_, (.tail _ (.tail _ (.tail _ (.tail _ (.tail _ (.tail _ (.head _ _))))))), ?_⟩
  have e1 : (z : Int) / 64 % ((natsV sp).length : Int) = ((z / 64 % n : Nat) : Int) := by rw [hnl, hsl]; rfl
  have hm := Nat.mod_lt (z / 64) (show 0 < n by walk_at "o")
  rw [e1]
  refine ss_cut (fun σ' => ∃ j : Nat, j < n ∧ σ' = ⟨[("walker", .cst (.ref x)), ("spots", .cst (.ref sl)), ("z", .int z), ("way", .int way), ("at", .int at_), ("internal", .bool internal), ("j", .int j)], [], [], (x, o) :: rest⟩) ?_ ?_
  · apply s_ifp
    · apply bp_cmp (hm := rfl)
      refine e_bin ?_
      refine e_bin ?_
      refine e_loc (.tail _ (.tail _ (.head _))) rfl ?_
      refine e_int ?_
      refine o_div (by walk_at "sc") (by walk_at "sc") ?_
      refine e_int ?_
      refine o_mod (by walk_at "sc") ?_
      refine e_int ?_
      refine c_eq ?_
      refine t_bool ⟨rfl, rfl⟩
    · intro _
      refine ss_cons ?_
      refine s_assign ?_ rfl
      refine e_call ?_ rfl rfl
      refine e_gl F he g583_min (has_min G) ?_
      refine ⟨_, rfl, keep_builtin, ?_⟩
      refine sw_cons ?_
      refine e_bin ?_
      refine e_call ?_ rfl rfl
      refine e_gl F he g583_len (has_len G) ?_
      refine ⟨_, rfl, keep_builtin, ?_⟩
      refine sw_cons ?_
      refine e_loc (.tail _ (.head _)) rfl ?_
      refine sw_nil ?_
      refine call_lenL (by walk_at "mem") (by walk_at "sc") ?_
      refine e_int ?_
      refine o_sub ?_
      refine sw_cons ?_
      refine e_call ?_ rfl rfl
      refine e_gl F he g583_max (has_max G) ?_
      refine ⟨_, rfl, keep_builtin, ?_⟩
      refine sw_cons ?_
      refine e_int ?_
      refine sw_cons ?_
      refine e_bin ?_
      refine e_bin ?_
      refine e_loc (mem_ix 4 rfl) rfl ?_
      refine e_bin ?_
      refine e_bin ?_
      refine e_loc (.tail _ (.tail _ (.head _))) rfl ?_
      refine e_int ?_
      refine o_div (by walk_at "sc") (by walk_at "sc") ?_
      refine e_int ?_
      refine o_mod (by walk_at "sc") ?_
      refine o_add ?_
      refine e_int ?_
      refine o_sub ?_
      refine sw_nil ?_
      refine call_max2 ?_
      refine sw_nil ?_
      refine call_min2 ?_
      refine ⟨_, (.tail _ (.tail _ (.tail _ (.tail _ (.tail _ (.tail _ (.head _ _))))))), ?_⟩
      refine ss_nil ?_
      obtain ⟨j', h1, h2⟩ : ∃ j' : Nat, j' < n ∧ (if (if at_ + (z : Int) / 64 % 9 - 4 > 0 then at_ + (z : Int) / 64 % 9 - 4 else 0) < ((natsV sp).length : Int) - 1 then (if at_ + (z : Int) / 64 % 9 - 4 > 0 then at_ + (z : Int) / 64 % 9 - 4 else 0) else ((natsV sp).length : Int) - 1) = (j' : Int) := by
        refine ⟨(if (if at_ + (z : Int) / 64 % 9 - 4 > 0 then at_ + (z : Int) / 64 % 9 - 4 else 0) < ((natsV sp).length : Int) - 1 then (if at_ + (z : Int) / 64 % 9 - 4 > 0 then at_ + (z : Int) / 64 % 9 - 4 else 0) else ((natsV sp).length : Int) - 1).toNat, ?_, ?_⟩
        · split <;> (try split) <;> (walk_at "o")
        · split <;> (try split) <;> (walk_at "o")
      rw [h2]
      exact ⟨rfl, j', h1, rfl⟩
    · intro _
      refine ss_nil ?_
      exact ⟨rfl, _, hm, rfl⟩
  · rintro _ ⟨j, hj, rfl⟩
    refine ss_cut (fun σ' => ∃ j : Nat, j < n ∧ σ' = ⟨[("walker", .cst (.ref x)), ("spots", .cst (.ref sl)), ("z", .int z), ("way", .int way), ("at", .int at_), ("internal", .bool internal), ("j", .int j)], [], [], (x, o) :: rest⟩) ?_ ?_
    · apply s_ifp
      · apply bp_cmp (hm := rfl)
        refine e_loc (mem_ix 3 rfl) rfl ?_
        refine e_int ?_
        refine c_eq ?_
        refine t_bool ⟨rfl, rfl⟩
      · intro _
        refine ss_cons ?_
        refine s_assign ?_ rfl
        refine e_int ?_
        refine ⟨_, (.tail _ (.tail _ (.tail _ (.tail _ (.tail _ (.tail _ (.head _ _))))))), ?_⟩
        refine ss_nil ?_
        exact ⟨rfl, 0, by walk_at "o", rfl⟩
      · intro _
        refine ss_nil ?_
        exact ⟨rfl, j, hj, rfl⟩
    · clear hj j
      rintro _ ⟨j, hj, rfl⟩
      refine ss_cut (fun σ' => ∃ j : Nat, j < n ∧ σ' = ⟨[("walker", .cst (.ref x)), ("spots", .cst (.ref sl)), ("z", .int z), ("way", .int way), ("at", .int at_), ("internal", .bool internal), ("j", .int j)], [], [], (x, o) :: rest⟩) ?_ ?_
      · apply s_ifp
        · apply bp_cmp (hm := rfl)
          refine e_loc (mem_ix 3 rfl) rfl ?_
          refine e_int ?_
          refine c_eq ?_
          refine t_bool ⟨rfl, rfl⟩
        · intro _
          refine ss_cons ?_
          refine s_assign ?_ rfl
          refine e_bin ?_
          refine e_call ?_ rfl rfl
          refine e_gl F he g583_len (has_len G) ?_
          refine ⟨_, rfl, keep_builtin, ?_⟩
          refine sw_cons ?_
          refine e_loc (.tail _ (.head _)) rfl ?_
          refine sw_nil ?_
          refine call_lenL (by walk_at "mem") (by walk_at "sc") ?_
          refine e_int ?_
          refine o_sub ?_
          refine ⟨_, (.tail _ (.tail _ (.tail _ (.tail _ (.tail _ (.tail _ (.head _ _))))))), ?_⟩
          refine ss_nil ?_
          rw [show ((natsV sp).length : Int) - 1 = ((n - 1 : Nat) : Int) by walk_at "o"]
          exact ⟨rfl, n - 1, by walk_at "o", rfl⟩
        · intro _
          refine ss_nil ?_
          exact ⟨rfl, j, hj, rfl⟩
      · clear hj j
        rintro _ ⟨j, hj, rfl⟩
        have hlow := S.low j hj
        have hhigh := S.high j hj
        have tj : ((j : Int)).toNat = j := toNat_cast j
        refine ss_cons ?_
        apply s_ifp
        · apply bp_or
          · apply bp_cmp (hm := rfl)
            refine e_loc (mem_ix 3 rfl) rfl ?_
            refine e_int ?_
            refine c_eq ?_
            refine t_bool ⟨rfl, rfl⟩
          · intro hp
            walk_at "hp"
            apply bp_cmp (hm := rfl)
            refine e_loc (mem_ix 3 rfl) rfl ?_
            refine e_int ?_
            refine c_eq ?_
            refine t_bool ⟨rfl, rfl⟩
        · intro _
          refine ss_cons ?_
          refine s_exprn ?_ rfl
          refine e_meth ?_ rfl rfl (by decide) rfl
          refine e_loc (.head _) rfl ?_
          refine mo_at hA (.head _) G (kmeth375_seek G) (by exact nm375_seek) ⟨kkeep351 G, ?_⟩
          refine sw_cons ?_
          refine e_call ?_ rfl rfl
          refine e_gl F he g583__law_key (has__law_key G) ?_
          refine ⟨_, rfl, kkeep543 G, ?_⟩
          refine sw_cons ?_
          refine e_sub ?_
          refine e_loc (.tail _ (.head _)) rfl ?_
          refine e_loc (mem_ix 6 rfl) rfl ?_
          refine so_list (.tail _ hs) (by walk_at "o") (by walk_at "o") (natsV_item (by walk_at "o") (by walk_at "o")) ?_
          rw [tj]
          refine sw_cons ?_
          refine e_int ?_
          refine sw_cons ?_
          refine e_loc (mem_ix 5 rfl) rfl ?_
          refine sw_nil ?_
          refine FnS.callP (law_key_spec G (sp.getD j 0) 1 internal (by walk_at "o") (by walk_at "o") _) (by walk_at "o") ?_
          refine sw_nil ?_
          refine FnS.call0 (seek_at G L (tgt1 S hj) h hO hA) (by walk_at "o") ?_
          rintro v led' ⟨rfl, o', hA', rfl⟩
          refine ⟨trivial, ?_⟩
          refine ss_cons ?_
          refine s_ret ?_
          refine e_bin ?_
          refine e_loc (mem_ix 6 rfl) rfl ?_
          refine e_int ?_
          refine o_add ?_
          refine ⟨_, .refl _, j + 1, hj, congrArg V.int (by walk_at "o"), o', hA', rfl⟩
        · intro _
          refine ss_nil ?_
          refine ss_cons ?_
          apply s_ifp
          · apply bp_cmp (hm := rfl)
            refine e_loc (mem_ix 3 rfl) rfl ?_
            refine e_int ?_
            refine c_lt ?_
            refine t_bool ⟨rfl, rfl⟩
          · intro _
            refine ss_cons ?_
            refine s_exprn ?_ rfl
            refine e_meth ?_ rfl rfl (by decide) rfl
            refine e_loc (.head _) rfl ?_
            refine mo_at hA (.head _) G (kmeth375_seek G) (by exact nm375_seek) ⟨kkeep351 G, ?_⟩
            refine sw_cons ?_
            refine e_call ?_ rfl rfl
            refine e_gl F he g583__law_key (has__law_key G) ?_
            refine ⟨_, rfl, kkeep543 G, ?_⟩
            refine sw_cons ?_
            refine e_sub ?_
            refine e_loc (.tail _ (.head _)) rfl ?_
            refine e_loc (mem_ix 6 rfl) rfl ?_
            refine so_list (.tail _ hs) (by walk_at "o") (by walk_at "o") (natsV_item (by walk_at "o") (by walk_at "o")) ?_
            rw [tj]
            refine sw_cons ?_
            refine e_int ?_
            refine sw_cons ?_
            refine e_loc (mem_ix 5 rfl) rfl ?_
            refine sw_nil ?_
            refine FnS.callP (law_key_spec G (sp.getD j 0) 0 internal (by walk_at "o") (by walk_at "o") _) (by walk_at "o") ?_
            refine sw_nil ?_
            refine FnS.call0 (seek_at G L (tgt0 S hj) h hO hA) (by walk_at "o") ?_
            rintro v led' ⟨rfl, o', hA', rfl⟩
            refine ⟨trivial, ?_⟩
            refine ss_cons ?_
            refine s_ret ?_
            refine e_loc (mem_ix 6 rfl) rfl ?_
            exact ⟨_, .refl _, j, by walk_at "o", rfl, o', hA', rfl⟩
          · intro _
            refine ss_nil ?_
            have em : ((sp.getD j 0 : Nat) : Int) - 1 = ((sp.getD j 0 - 1 : Nat) : Int) := by walk_at "o"
            have tail : ∀ (p : Nat), Tgt n key internal (lkey internal (sp.getD j 0 - 1) 0) p → p ≤ n → (∀ o', At dx b order d n I pos key p o' → WSs c (fun _ _ => False) (body583.drop 7) ⟨[("walker", .cst (.ref x)), ("spots", .cst (.ref sl)), ("z", .int z), ("way", .int way), ("at", .int at_), ("internal", .bool internal), ("j", .int j)], [], [], (x, o') :: rest⟩
                (fun fl σ' => match fl with
                  | .ret v => ∃ led', Sub σ'.led led' ∧ ∃ p : Nat, p ≤ n ∧ v = .int p ∧ ∃ o', At dx b order d n I pos key p o' ∧ led' = (x, o') :: rest
                  | .next => ∃ led', Sub σ'.led led' ∧ ∃ p : Nat, p ≤ n ∧ V.none = .int p ∧ ∃ o', At dx b order d n I pos key p o' ∧ led' = (x, o') :: rest
                  | _ => False)) → WSs c (fun _ _ => False) (body583.drop 6) ⟨[("walker", .cst (.ref x)), ("spots", .cst (.ref sl)), ("z", .int z), ("way", .int way), ("at", .int at_), ("internal", .bool internal), ("j", .int j)], [], [], (x, o) :: rest⟩
                (fun fl σ' => match fl with
                  | .ret v => ∃ led', Sub σ'.led led' ∧ ∃ p : Nat, p ≤ n ∧ v = .int p ∧ ∃ o', At dx b order d n I pos key p o' ∧ led' = (x, o') :: rest
                  | .next => ∃ led', Sub σ'.led led' ∧ ∃ p : Nat, p ≤ n ∧ V.none = .int p ∧ ∃ o', At dx b order d n I pos key p o' ∧ led' = (x, o') :: rest
                  | _ => False) := by
              intro p hT hp k
              refine ss_cons ?_
              refine s_exprn ?_ rfl
              refine e_meth ?_ rfl rfl (by decide) rfl
              refine e_loc (.head _) rfl ?_
              refine mo_at hA (.head _) G (kmeth375_seek G) (by exact nm375_seek) ⟨kkeep351 G, ?_⟩
              refine sw_cons ?_
              refine e_call ?_ rfl rfl
              refine e_gl F he g583__law_key (has__law_key G) ?_
              refine ⟨_, rfl, kkeep543 G, ?_⟩
              refine sw_cons ?_
              refine e_bin ?_
              refine e_sub ?_
              refine e_loc (.tail _ (.head _)) rfl ?_
              refine e_loc (mem_ix 6 rfl) rfl ?_
              refine so_list (.tail _ hs) (by walk_at "o") (by walk_at "o") (natsV_item (by walk_at "o") (by walk_at "o")) ?_
              rw [tj]
              refine e_int ?_
              refine o_sub ?_
              rw [em]
              refine sw_cons ?_
              refine e_int ?_
              refine sw_cons ?_
              refine e_loc (mem_ix 5 rfl) rfl ?_
              refine sw_nil ?_
              refine FnS.callP (law_key_spec G (sp.getD j 0 - 1) 0 internal (by walk_at "o") (by walk_at "o") _) (by walk_at "o") ?_
              refine sw_nil ?_
              refine FnS.call0 (seek_at G L hT h hO hA) (by walk_at "o") ?_
              rintro v led' ⟨rfl, o', hA', rfl⟩
              exact ⟨trivial, k o' hA'⟩
            by_cases q : 0 < j ∧ sp.getD (j - 1) 0 = sp.getD j 0 - 1
            · refine tail (j - 1) (tgtm S hj q.1 q.2) (by walk_at "o") fun o' hA' => ?_
              refine ss_cons ?_
              apply s_ifp
              · apply bp_and
                · apply bp_cmp (hm := rfl)
                  refine e_loc (mem_ix 6 rfl) rfl ?_
                  refine e_int ?_
                  refine c_gt ?_
                  refine t_bool ⟨rfl, rfl⟩
                · intro hp
                  walk_at "hp"
                  apply bp_cmp (hm := rfl)
                  refine e_sub ?_
                  refine e_loc (.tail _ (.head _)) rfl ?_
                  refine e_bin ?_
                  refine e_loc (mem_ix 6 rfl) rfl ?_
                  refine e_int ?_
                  refine o_sub ?_
                  refine so_list (by walk_at "mem") (by walk_at "sc") (by walk_at "so") (by walk_at "item") ?_
                  refine e_bin ?_
                  refine e_sub ?_
                  refine e_loc (.tail _ (.head _)) rfl ?_
                  refine e_loc (mem_ix 6 rfl) rfl ?_
                  refine so_list (by walk_at "mem") (by walk_at "sc") (by walk_at "so") (by walk_at "item") ?_
                  refine e_int ?_
                  refine o_sub ?_
                  refine c_eq ?_
                  refine t_bool ⟨rfl, rfl⟩
              · intro _
                refine ss_cons ?_
                refine s_ret ?_
                refine e_bin ?_
                refine e_loc (mem_ix 6 rfl) rfl ?_
                refine e_int ?_
                refine o_sub ?_
                exact ⟨_, .refl _, j - 1, by walk_at "o", congrArg V.int (by walk_at "o"), o', hA', rfl⟩
              · intro hp
                exfalso
                rw [tj, show ((j : Int) - 1).toNat = j - 1 by walk_at "o"] at hp
                simp only [Bool.and_eq_false_imp, decide_eq_true_eq, decide_eq_false_iff_not] at hp
                exact hp (by walk_at "o") (by walk_at "o")
            · refine tail j (tgtm' S hj fun h0 e => q ⟨h0, e⟩) (by walk_at "o") fun o' hA' => ?_
              refine ss_cons ?_
              apply s_ifp
              · apply bp_and
                · apply bp_cmp (hm := rfl)
                  refine e_loc (mem_ix 6 rfl) rfl ?_
                  refine e_int ?_
                  refine c_gt ?_
                  refine t_bool ⟨rfl, rfl⟩
                · intro hp
                  walk_at "hp"
                  apply bp_cmp (hm := rfl)
                  refine e_sub ?_
                  refine e_loc (.tail _ (.head _)) rfl ?_
                  refine e_bin ?_
                  refine e_loc (mem_ix 6 rfl) rfl ?_
                  refine e_int ?_
                  refine o_sub ?_
                  refine so_list (by walk_at "mem") (by walk_at "sc") (by walk_at "so") (by walk_at "item") ?_
                  refine e_bin ?_
                  refine e_sub ?_
                  refine e_loc (.tail _ (.head _)) rfl ?_
                  refine e_loc (mem_ix 6 rfl) rfl ?_
                  refine so_list (by walk_at "mem") (by walk_at "sc") (by walk_at "so") (by walk_at "item") ?_
                  refine e_int ?_
                  refine o_sub ?_
                  refine c_eq ?_
                  refine t_bool ⟨rfl, rfl⟩
              · intro hp
                exfalso
                rw [tj, show ((j : Int) - 1).toNat = j - 1 by walk_at "o"] at hp
                simp only [Bool.and_eq_true, decide_eq_true_eq] at hp
                exact q ⟨by walk_at "o", by walk_at "o"⟩
              · intro _
                refine ss_nil ?_
                refine ss_cons ?_
                refine s_ret ?_
                refine e_loc (mem_ix 6 rfl) rfl ?_
                exact ⟨_, .refl _, j, by walk_at "o", rfl, o', hA', rfl⟩
end
noncomputable def nearOf (m r : Nat) : Nat := if r + 1 = m then r - 1 else r + 1
noncomputable def spoilt (d : List UInt8) (places : List Nat) (r : Nat) : List UInt8 :=
  d.take (d.length - 4 * (places.length + 1 - r)) ++ lnum (places.getD (nearOf places.length r) 0) ++ d.drop (d.length - 4 * (places.length + 1 - r) + 4)
theorem lnum_length (n : Nat) : (lnum n).length = 4 := rfl
theorem law_refuses_spec {g : Gx} (G : GH g) {pl order : Addr} {d : List UInt8} {places : List Nat} {r : Nat} {led : Led} (hp : (pl, Ob.list (natsV places)) ∈ led) (h2 : 2 ≤ places.length) (hr : r < places.length) (hd : 4 * (places.length + 1) ≤ d.length) (hz : d.length ≤ 100000)
    (hn : places.getD (nearOf places.length r) 0 < 65536) (B : BlkOk (spoilt d places r)) {r' : Nat} (T : Bad (spoilt d places r) r') :
    FnS g 4 562 [.bytes d, .cst (.ref pl), .int r, .cst (.ref order)] led (fun v led' => v = .bool true ∧ led' = led) NoX := by
  have hnl := natsV_length places
  obtain ⟨at_, hat⟩ : ∃ at_, at_ = d.length - 4 * (places.length + 1 - r) := ⟨_, rfl⟩
  have hnr : nearOf places.length r < places.length := by unfold nearOf; split <;> (walk_at "o")
  refine fnSX (kfn562 G) loc562 noc562 clo562 rfl fun c hg hn' hown he => ?_
  subst hg
  have F := kfn562 G
  show WSs c _ _ ⟨[("out", .bytes d), ("places", .cst (.ref pl)), ("r", .int r), ("order", .cst (.ref order)), ("near", .unset), ("at", .unset)], [], [], _⟩ _
  refine ss_cons ?_
  refine s_assign ?_ rfl
  refine e_bin ?_
  refine e_loc (.tail _ (.tail _ (.head _))) rfl ?_
  refine e_int ?_
  refine o_add ?_
  refine ⟨_, (.tail _ (.tail _ (.tail _ (.tail _ (.head _ _))))), ?_⟩
  dsimp only
  refine ss_cut (fun σ' => σ' = ⟨[("out", .bytes d), ("places", .cst (.ref pl)), ("r", .int r), ("order", .cst (.ref order)), ("near", .int (nearOf places.length r : Nat)), ("at", .unset)], [], [], led⟩) ?_ ?_
  · apply s_ifp
    · apply bp_cmp (hm := rfl)
      refine e_loc (mem_ix 4 rfl) rfl ?_
      refine e_call ?_ rfl rfl
      refine e_gl F he g562_len (has_len G) ?_
      refine ⟨_, rfl, keep_builtin, ?_⟩
      refine sw_cons ?_
      refine e_loc (.tail _ (.head _)) rfl ?_
      refine sw_nil ?_
      refine call_lenL (by walk_at "mem") (by walk_at "sc") ?_
      refine c_eq ?_
      refine t_bool ⟨rfl, rfl⟩
    · intro hq
      have hq := of_decide_eq_true hq
      refine ss_cons ?_
      refine s_assign ?_ rfl
      refine e_bin ?_
      refine e_loc (.tail _ (.tail _ (.head _))) rfl ?_
      refine e_int ?_
      refine o_sub ?_
      refine ⟨_, (.tail _ (.tail _ (.tail _ (.tail _ (.head _ _))))), ?_⟩
      refine ss_nil ?_
      refine ⟨rfl, ?_⟩
      have e : (r : Int) - 1 = (nearOf places.length r : Nat) := by unfold nearOf; rw [if_pos (by walk_at "o")]; (walk_at "o")
      rw [e]
    · intro hq
      have hq := of_decide_eq_false hq
      refine ss_nil ?_
      refine ⟨rfl, ?_⟩
      have e : (r : Int) + 1 = (nearOf places.length r : Nat) := by unfold nearOf; rw [if_neg (by walk_at "o")]; (walk_at "o")
      rw [e]
  · rintro _ rfl
    refine ss_cons ?_
    refine s_assign ?_ rfl
    refine e_bin ?_
    refine e_call ?_ rfl rfl
    refine e_gl F he g562_len (has_len G) ?_
    refine ⟨_, rfl, keep_builtin, ?_⟩
    refine sw_cons ?_
    refine e_loc (.head _) rfl ?_
    refine sw_nil ?_
    refine call_lenB (by walk_at "sc") ?_
    refine e_bin ?_
    refine e_int ?_
    refine e_bin ?_
    refine e_bin ?_
    refine e_call ?_ rfl rfl
    refine e_gl F he g562_len (has_len G) ?_
    refine ⟨_, rfl, keep_builtin, ?_⟩
    refine sw_cons ?_
    refine e_loc (.tail _ (.head _)) rfl ?_
    refine sw_nil ?_
    refine call_lenL (by walk_at "mem") (by walk_at "sc") ?_
    refine e_int ?_
    refine o_add ?_
    refine e_loc (.tail _ (.tail _ (.head _))) rfl ?_
    refine o_sub ?_
    refine o_mul (by walk_at "sc") ?_
    refine o_sub ?_
    refine ⟨_, (.tail _ (.tail _ (.tail _ (.tail _ (.tail _ (.head _ _)))))), ?_⟩
    have e2 : (d.length : Int) - 4 * (((natsV places).length : Int) + 1 - r) = (at_ : Int) := by walk_at "o"
    rw [e2]
    have t2 : ((nearOf places.length r : Nat) : Int).toNat = nearOf places.length r := toNat_cast _
    refine ss_cons ?_
    refine s_try_catch (Y := fun σ' => σ'.led = led) F he g562_Corrupt (has_Corrupt G) (kexc56 G) hown ?_ ?_
    · refine ss_cons ?_
      refine s_exprn ?_ rfl
      refine e_call ?_ rfl rfl
      refine e_gl F he g562_Block (has_Block G) ?_
      refine ⟨_, rfl, kkeep263 G, ?_⟩
      refine sw_cons ?_
      refine e_bin ?_
      refine e_bin ?_
      refine e_slice ?_
      refine e_loc (.head _) rfl ?_
      refine e_loc (mem_ix 5 rfl) rfl ?_
      refine ⟨_, rfl, ?_⟩
      refine sl_bytes (by walk_at "o") ?_
      rw [cutB_to (show at_ ≤ d.length by walk_at "o")]
      refine e_call ?_ rfl rfl
      refine e_gl F he g562__law_number (has__law_number G) ?_
      refine ⟨_, rfl, kkeep550 G, ?_⟩
      refine sw_cons ?_
      refine e_sub ?_
      refine e_loc (.tail _ (.head _)) rfl ?_
      refine e_loc (mem_ix 4 rfl) rfl ?_
      refine so_list hp (by walk_at "o") (by walk_at "o") (natsV_item (by walk_at "o") (by walk_at "o")) ?_
      rw [t2]
      refine sw_nil ?_
      refine FnS.callP (law_number_spec G _ hn _) (by walk_at "o") ?_
      have l1 : (d.take at_).length = at_ := by rw [List.length_take]; (walk_at "o")
      have l2 := lnum_length (places.getD (nearOf places.length r) 0)
      have l3 : (d.drop (at_ + 4)).length = d.length - (at_ + 4) := List.length_drop
      refine o_addB (by walk_at "o") ?_
      refine e_slice ?_
      refine e_loc (.head _) rfl ?_
      refine e_bin ?_
      refine e_loc (mem_ix 5 rfl) rfl ?_
      refine e_int ?_
      refine o_add ?_
      refine ⟨_, rfl, ?_⟩
      refine sl_bytes (by walk_at "o") ?_
      rw [show (at_ : Int) + 4 = ((at_ + 4 : Nat) : Int) by walk_at "o", cutB_from (show at_ + 4 ≤ d.length by walk_at "o")]
      refine o_addB (by rw [List.length_append]; (walk_at "o")) ?_
      have es : d.take at_ ++ lnum (places.getD (nearOf places.length r) 0) ++ d.drop (at_ + 4) = spoilt d places r := by rw [hat]; rfl
      rw [es]
      refine sw_cons ?_
      refine e_loc (mem_ix 3 rfl) rfl ?_
      refine sw_nil ?_
      refine call_class (X := XIs 56 led) (Q0 := fun _ _ => False) (kmakes263 G) (show 2 + 1 ≤ c.n by walk_at "o") (fun x dx => ?_) (fun e s' hz => ?_) (fun x led' hq => hq.elim)
      · intro c' σ' s A us hg hR hl hA hr hv
        exact wpS_mono (block_init_raise_spec G _ B r' T x dx order led c' σ' s A us hg hR hl hA hr hv) (fun u s' zq => by obtain ⟨v, led', R', hv, q⟩ := zq; exact q.elim) fun _ _ z => z
      · obtain ⟨C, led', hx, _, rfl, rfl⟩ := hz
        exact ⟨56, _, hx, rfl, rfl⟩
    · rintro σ' e t' hl
      exact suite_retb ⟨_, .skip (.refl _), rfl, hl⟩
theorem kindOf_of {c : Fx} {fd : FuncData} {f : Addr} {body : List Stmt} {ps : List Str} {x : Str} {k : NameKind} (F : FnAt c.g.K f fd body ps) (he : c.env.scope = fd.scope) (hx : (x, k) ∈ fd.scope.names) : c.env.kindOf x = some k := by
  show c.env.scope.names.lookup x = _
  rw [he]; exact lookup_mem F.nd hx
theorem gc555_keys : (("keys" : Str), NameKind.cell) ∈ fd555.scope.names := .head _
theorem gc555_j : (("j" : Str), NameKind.cell) ∈ fd555.scope.names := .tail _ (mem_ix 6 rfl)
theorem gc555_key : (("key" : Str), NameKind.cell) ∈ fd555.scope.names := .tail _ (mem_ix 7 rfl)
theorem gc588_internal : (("internal" : Str), NameKind.cell) ∈ fd588.scope.names := .tail _ (mem_ix 6 rfl)
theorem dict_codes {l : List (Str × NameKind)} (ns : List Nat) (h : (l.map Prod.fst).map code = ns) (d : code "__classdict__" ∉ ns) : ∀ p ∈ l, (p.1 == ("__classdict__" : Str)) = false := by
  subst h
  intro p hp
  refine beq_eq_false_iff_ne.mpr fun e => d ?_
  rw [← e]
  exact List.mem_map_of_mem (List.mem_map_of_mem hp)
theorem nocell_of {l : List (Str × NameKind)} (h : l.all (·.2 != .cell) = true) : ∀ p ∈ l, p.2 ≠ .cell := fun p hp e => by
  have := List.all_eq_true.mp h p hp
  rw [e] at this; exact absurd this (by decide)
theorem fnC_of {g : Gx} {n : Nat} {f : Addr} {fd : FuncData} {body : List Stmt} {ps : List Str} {ys : List V} {led : Led} {Q : V → Led → Prop} {loc0 : List (Str × V)} {cn : List Str} {cv : List V}
    (F : FnAt g.K f fd body ps) (hclo : fd.closure = []) (hl : ys.length = ps.length) (hloc : ∀ p ∈ loc0, (p.1, NameKind.local) ∈ fd.scope.names) (hnd : (loc0.map Prod.fst).Nodup)
    (hcn : (cellsFrom 0 fd.scope.names []).map Prod.fst = cn) (hcv : cv.length = cn.length)
    (hbind : ∀ x ∈ ps, (x, NameKind.local) ∈ fd.scope.names ∨ ((x, NameKind.cell) ∈ fd.scope.names ∧ x ∈ cn))
    (hval : ∀ us, AtAll ys us → (∀ p ∈ loc0, LocAt p.2 (bindL (fun x => fd.scope.names.lookup x) (ps.zip us) (fun _ => none) p.1)) ∧ (∀ p ∈ cn.zip cv, LocAt p.2 (bindC (fun x => fd.scope.names.lookup x) (ps.zip us) (fun _ => none) p.1)))
    (h : ∀ c : Fx, c.g = g → c.n = n → c.own = true → c.env.scope = fd.scope → ∀ as : List Addr, as.length = cn.length →
      WSs c (Ex c NoX) body ⟨loc0, [], cn.zip as, cellLed as cv ++ led⟩ (subQ Q)) :
    FnS g (n + 1) f ys led Q NoX := by
  intro c σ s A vs hg R hled hA room hvs
  subst hg
  subst hled
  refine wpS_mono (callC (X := NoX) (Q := fun v l => ∃ led', Sub l led' ∧ Q v led') F hclo hl hloc hnd hcn hcv hbind hval R.caller hA room hvs fun c' h1 h2 h3 h4 _ as h5 => (h c' h1 h2 h3 h4 as h5).mono fun fl σ' q => by cases fl <;> exact q)
    (fun u s' zq => by obtain ⟨env, σ', v, R', hv, led', hs, q⟩ := zq; exact ⟨v, led', (R.back rfl rfl rfl rfl R').sub hs, hv, q⟩) fun x s' ⟨env, σ', C, e, t, hx, R', q⟩ => q.elim
noncomputable def shB (ks : List (List UInt8)) (I j : Nat) : Nat := if j % I = 0 then 0 else lcp (ks.getD (j - 1) []) (ks.getD j [])
noncomputable def bodyB (ks vs : List (List UInt8)) (I : Nat) : Nat → List UInt8
  | 0 => []
  | k + 1 => added (bodyB ks vs I k) (shB ks I k) (ks.getD k []) (vs.getD k [])
noncomputable def plcB (ks vs : List (List UInt8)) (I : Nat) : Nat → List Nat
  | 0 => []
  | k + 1 => if k % I = 0 then plcB ks vs I k ++ [(bodyB ks vs I k).length] else plcB ks vs I k
noncomputable def rsB (ks vs : List (List UInt8)) (I k : Nat) : List Nat := if k = 0 then [0] else plcB ks vs I k
noncomputable def sinB (I k : Nat) : Nat := if k = 0 then 0 else (k - 1) % I + 1
noncomputable def lastB (ks : List (List UInt8)) (k : Nat) : List UInt8 := if k = 0 then [] else ks.getD (k - 1) []
theorem pred_mod {I k : Nat} (hI : 1 ≤ I) (hk : 0 < k) : (k % I = 0 ∧ (k - 1) % I + 1 = I) ∨ (k % I ≠ 0 ∧ (k - 1) % I + 1 = k % I) := by
  have h1 := Nat.div_add_mod k I
  have h2 := Nat.mod_lt k (show 0 < I by walk_at "o")
  rcases Nat.eq_zero_or_pos (k % I) with r | r
  · left
    refine ⟨r, ?_⟩
    have hq : 0 < k / I := by
      rcases Nat.eq_zero_or_pos (k / I) with q | q
      · rw [q, Nat.mul_zero] at h1; (walk_at "o")
      · exact q
    obtain ⟨q, hq'⟩ : ∃ q, k / I = q + 1 := ⟨k / I - 1, by walk_at "o"⟩
    rw [hq', Nat.mul_succ] at h1
    have e : k - 1 = I * q + (I - 1) := by walk_at "o"
    rw [e, Nat.mul_add_mod, Nat.mod_eq_of_lt (by walk_at "o")]; (walk_at "o")
  · right
    refine ⟨by walk_at "o", ?_⟩
    have e : k - 1 = I * (k / I) + (k % I - 1) := by walk_at "o"
    rw [e, Nat.mul_add_mod, Nat.mod_eq_of_lt (by walk_at "o")]; (walk_at "o")
theorem sinB_lt {I k : Nat} (hI : 1 ≤ I) : sinB I k < I ↔ (k = 0 ∨ k % I ≠ 0) := by
  unfold sinB
  rcases Nat.eq_zero_or_pos k with rfl | hk
  · simp; (walk_at "o")
  · rw [if_neg (by walk_at "o")]
    rcases pred_mod hI hk with ⟨a, b⟩ | ⟨a, b⟩
    · (walk_at "o")
    · have := Nat.mod_lt k (show 0 < I by walk_at "o")
      (walk_at "o")
theorem sinB_succ {I k : Nat} (hI : 1 ≤ I) : (if sinB I k < I then sinB I k else 0) + 1 = sinB I (k + 1) := by
  have e : sinB I (k + 1) = k % I + 1 := by unfold sinB; rw [if_neg (by walk_at "o")]; rfl
  rw [e]
  rcases Nat.eq_zero_or_pos k with rfl | hk
  · rw [Nat.zero_mod]; unfold sinB; simp
  · by_cases h : sinB I k < I
    · rw [if_pos h]
      have h' := (sinB_lt hI).mp h
      unfold sinB; rw [if_neg (by walk_at "o")]
      rcases pred_mod hI hk with ⟨a, b⟩ | ⟨a, b⟩ <;> (walk_at "o")
    · rw [if_neg h]
      have h' : ¬ (k = 0 ∨ k % I ≠ 0) := fun q => h ((sinB_lt hI).mpr q)
      (walk_at "o")
theorem shB_of {ks : List (List UInt8)} {I k : Nat} (hI : 1 ≤ I) : (if sinB I k < I then lcp (lastB ks k) (ks.getD k []) else 0) = shB ks I k := by
  unfold shB lastB
  by_cases h : sinB I k < I
  · rw [if_pos h]
    have h' := (sinB_lt hI).mp h
    rcases Nat.eq_zero_or_pos k with rfl | hk
    · rw [if_pos rfl, if_pos (Nat.zero_mod _)]; rfl
    · rw [if_neg (by walk_at "o"), if_neg (by walk_at "o")]
  · rw [if_neg h]
    have h' : ¬ (k = 0 ∨ k % I ≠ 0) := fun q => h ((sinB_lt hI).mpr q)
    rw [if_pos (by walk_at "o")]
theorem rsB_succ {ks vs : List (List UInt8)} {I k : Nat} (hI : 1 ≤ I) : (if sinB I k < I then natsV (rsB ks vs I k) else natsV (rsB ks vs I k) ++ [.int (bodyB ks vs I k).length]) = natsV (rsB ks vs I (k + 1)) := by
  have e : rsB ks vs I (k + 1) = if k % I = 0 then plcB ks vs I k ++ [(bodyB ks vs I k).length] else plcB ks vs I k := by unfold rsB; rw [if_neg (by walk_at "o")]; rfl
  rw [e]
  rcases Nat.eq_zero_or_pos k with rfl | hk
  · rw [if_pos ((sinB_lt hI).mpr (.inl rfl)), if_pos (Nat.zero_mod _)]; rfl
  · by_cases h : sinB I k < I
    · have h' := (sinB_lt hI).mp h
      rw [if_pos h, if_neg (by walk_at "o")]; unfold rsB; rw [if_neg (by walk_at "o")]
    · have h' : ¬ (k = 0 ∨ k % I ≠ 0) := fun q => h ((sinB_lt hI).mpr q)
      rw [if_neg h, if_pos (by walk_at "o")]; unfold rsB; rw [if_neg (by walk_at "o")]
      simp [natsV]
theorem lastB_succ (ks : List (List UInt8)) (k : Nat) : lastB ks (k + 1) = ks.getD k [] := by unfold lastB; rw [if_neg (by walk_at "o")]; rfl
theorem law_entry (b key v : List UInt8) (sh : Nat) : b ++ toB [(sh : Int), (key.length : Int) - sh, (v.length : Int)] ++ key.drop sh ++ v = added b sh key v := by
  unfold added
  simp [toB]
theorem plcB_length (ks vs : List (List UInt8)) (I : Nat) : ∀ k, (plcB ks vs I k).length ≤ k
  | 0 => Nat.le_refl _
  | k + 1 => by
    have := plcB_length ks vs I k
    unfold plcB
    split
    · rw [List.length_append]; simp; (walk_at "o")
    · (walk_at "o")
theorem bodyB_mono (ks vs : List (List UInt8)) (I : Nat) (k : Nat) : (bodyB ks vs I k).length ≤ (bodyB ks vs I (k + 1)).length := by
  show _ ≤ (added _ _ _ _).length
  unfold added
  simp only [List.length_append]; (walk_at "o")
theorem bodyB_le (ks vs : List (List UInt8)) (I : Nat) {i j : Nat} (h : i ≤ j) : (bodyB ks vs I i).length ≤ (bodyB ks vs I j).length := by
  induction j with
  | zero => rw [show i = 0 by walk_at "o"]; exact Nat.le_refl _
  | succ j ih =>
    rcases Nat.lt_or_ge i (j + 1) with q | q
    · exact Nat.le_trans (ih (by walk_at "o")) (bodyB_mono ks vs I j)
    · rw [show i = j + 1 by walk_at "o"]; exact Nat.le_refl _
theorem plcB_mem (ks vs : List (List UInt8)) (I : Nat) : ∀ k p, p ∈ plcB ks vs I k → p ≤ (bodyB ks vs I k).length
  | 0, p, h => by cases h
  | k + 1, p, h => by
    have hm := bodyB_mono ks vs I k
    unfold plcB at h
    split at h
    · rcases List.mem_append.mp h with h | h
      · exact Nat.le_trans (plcB_mem ks vs I k p h) hm
      · rcases List.mem_cons.mp h with rfl | h
        · exact hm
        · cases h
    · exact Nat.le_trans (plcB_mem ks vs I k p h) hm
theorem lnum_b32 {n : Nat} (h : n < 65536) : lnum n = b32 n := by
  unfold lnum b32
  rw [show n / 65536 % 256 = 0 by walk_at "o", show n / 16777216 = 0 by walk_at "o", show n / 256 % 256 = n / 256 by walk_at "o"]
  rfl
theorem cutB_take (b : List UInt8) (k : Nat) : cutB b none (some (k : Int)) = b.take k := by
  have e : clipAt b.length (k : Int) = min k b.length := by unfold clipAt; rw [if_neg (by walk_at "o")]; (walk_at "o")
  unfold cutB
  simp only [Option.elim]
  rw [e]
  simp only [List.drop_zero, Nat.sub_zero]
  rw [List.take_eq_take_iff]; (walk_at "o")
theorem take_lcp : ∀ (a b : List UInt8) (k : Nat), k ≤ b.length → (b.take k = a.take k ↔ k ≤ lcp a b)
  | _, _, 0, _ => by simp
  | x :: xs, y :: ys, k + 1, h => by
    unfold lcp
    rw [List.take_succ_cons, List.take_succ_cons]
    by_cases e : x = y
    · rw [if_pos e]
      have := take_lcp xs ys k (by simpa using h)
      subst e
      simp [this]
    · rw [if_neg e]
      simp [Ne.symm e]
  | [], y :: ys, k + 1, h => by simp [lcp]
  | _, [], k + 1, h => by simp at h
structure BuildOk (n I : Nat) (internal : Bool) (ks vs : List (List UInt8)) : Prop where
  kn : ks.length = n
  vn : vs.length = n
  n0 : n ≤ 1000
  n1 : 1 ≤ n
  I1 : 1 ≤ I
  I2 : I ≤ 1000
  ok : ∀ i, i < n → KeyOk internal (ks.getD i [])
  vl : ∀ i, i < n → (vs.getD i []).length ≤ 100
  rise : ∀ i, i + 1 < n → 0 < kcmp internal (ks.getD (i + 1) []) (ks.getD i [])
  ne : ∀ i, i + 1 < n → lcp (ks.getD i []) (ks.getD (i + 1) []) < (ks.getD (i + 1) []).length
  size : (bodyB ks vs I n).length ≤ 60000
noncomputable def outB (ks vs : List (List UInt8)) (I n : Nat) : List UInt8 := bodyB ks vs I n ++ tabl (plcB ks vs I n) ++ b32 (plcB ks vs I n).length
theorem cellsFrom555 : (cellsFrom 0 fd555.scope.names []).map Prod.fst = [("key" : Str), ("j" : Str), ("keys" : Str)] := by kernel_rfl
theorem bind555 (a b c d : Value) : bindL (fun x => fd555.scope.names.lookup x) [(("keys" : Str), a), ("values", b), ("interval", c), ("order", d)] (fun _ => none) "values" = some b ∧
    bindL (fun x => fd555.scope.names.lookup x) [(("keys" : Str), a), ("values", b), ("interval", c), ("order", d)] (fun _ => none) "interval" = some c ∧
    bindL (fun x => fd555.scope.names.lookup x) [(("keys" : Str), a), ("values", b), ("interval", c), ("order", d)] (fun _ => none) "order" = some d ∧
    bindC (fun x => fd555.scope.names.lookup x) [(("keys" : Str), a), ("values", b), ("interval", c), ("order", d)] (fun _ => none) "keys" = some a := ⟨by kernel_rfl, by kernel_rfl, by kernel_rfl, by kernel_rfl⟩
theorem scope_comp3 : ScopeOk { kind := .function, names := [(".0", .local), ("c", .local), ("j", .free), ("key", .free), ("keys", .free)], isGenerator := false, isCoroutine := false } "c" [("j" : Str), ("key" : Str), ("keys" : Str)] where
  kind := rfl
  nd := nodup_codes [4398142980144, 2097251, 2097258, 9223842628043276409, 19343800015086213207687283] (by kernel_rfl) (by decide +kernel)
  dbg := dbg_codes [4398142980144, 2097251, 2097258, 9223842628043276409, 19343800015086213207687283] (by kernel_rfl) (by decide +kernel)
  dict := dict_codes [4398142980144, 2097251, 2097258, 9223842628043276409, 19343800015086213207687283] (by kernel_rfl) (by decide +kernel)
  loc := .tail _ (.head _)
  nocell := nocell_of (by kernel_rfl)
  free := by kernel_rfl
theorem loc555_nd : ([("values" : Str), ("interval" : Str), ("order" : Str), ("builder" : Str), ("body" : Str), ("places" : Str), ("value" : Str), ("shared" : Str), ("out" : Str), ("place" : Str)] : List Str).Nodup :=
  nodup_codes [85075378380777331528230302440358936691, 374163151792035682579428996596323779887637140078700, 40566966260610441281315088105586, 178414298510980634002891462815469425855037554, 19343717004781861935775865, 85075134992074858550980218237852057715, 40567101660145440830340529651813, 85075256686455109208547491624876245092, 9223860220262875252, 40566985603368214869966611021925] (by kernel_rfl) (by decide +kernel)
section
variable {g : Gx} {kl vl order : Addr} {n I : Nat} {internal : Bool} {ks vs : List (List UInt8)} {led : Led}
noncomputable def bldSt (kl vl order : Addr) (I : Nat) (ks vs : List (List UInt8)) (a1 a2 a3 bx dx buf rs pl : Addr) (led : Led) (k : Nat) (jv kv vv sv : V) : St :=
  ⟨[("values", .cst (.ref vl)), ("interval", .int I), ("order", .cst (.ref order)), ("builder", .cst (.ref bx)), ("body", .bytes (bodyB ks vs I k)), ("places", .cst (.ref pl)), ("value", vv), ("shared", sv), ("out", .unset), ("place", .unset)], [],
    [("key", a3), ("j", a2), ("keys", a1)],
    (rs, .list (natsV (rsB ks vs I k))) :: (buf, .ba (bodyB ks vs I k)) :: (bx, bldOb dx order buf rs I (sinB I k) k false (lastB ks k)) :: (pl, .list (natsV (plcB ks vs I k))) :: (a3, .cell kv) :: (a2, .cell jv) :: (a1, .cell (.cst (.ref kl))) :: led⟩
theorem law_build_spec (G : GH g) (B : BuildOk n I internal ks vs) (hO : OrdIn order internal led) (hk : (kl, Ob.list (bytesV ks)) ∈ led) (hv : (vl, Ob.list (bytesV vs)) ∈ led) :
    FnS g 6 555 [.cst (.ref kl), .cst (.ref vl), .int I, .cst (.ref order)] led
      (fun v led' => ∃ t pl, v = .cst (.ref t) ∧ led' = (t, .tup [.bytes (outB ks vs I n), .cst (.ref pl)]) :: (pl, .list (natsV (plcB ks vs I n))) :: led) NoX := by
  obtain ⟨b1, b2, b3, b4, b5, b6, b7, b8, b9, b10, b11⟩ := B
  have hnl := bytesV_length ks
  have hnv := bytesV_length vs
  refine fnC_of (loc0 := [("values", .cst (.ref vl)), ("interval", .int I), ("order", .cst (.ref order)), ("builder", .unset), ("body", .unset), ("places", .unset), ("value", .unset), ("shared", .unset), ("out", .unset), ("place", .unset)]) (cv := [.unset, .unset, .cst (.ref kl)]) (kfn555 G) clo555 rfl ?_ loc555_nd cellsFrom555 rfl ?_ ?_ fun c hg hn ho he as has => ?_
  · simp only [List.forall_mem_cons]
    exact ⟨(.tail _ (.head _)), (.tail _ (.tail _ (.head _))), (mem_ix 3 rfl), (mem_ix 4 rfl), (mem_ix 5 rfl), (mem_ix 6 rfl), (mem_ix 9 rfl), (mem_ix 10 rfl), (mem_ix 11 rfl), (mem_ix 12 rfl), fun _ h => by cases h⟩
  · intro x hx
    rcases List.mem_cons.mp hx with rfl | hx
    · exact .inr ⟨gc555_keys, .tail _ (.tail _ (.head _))⟩
    · refine .inl ?_
      rcases List.mem_cons.mp hx with rfl | hx
      · exact .tail _ (.head _)
      · rcases List.mem_cons.mp hx with rfl | hx
        · exact .tail _ (.tail _ (.head _))
        · rcases List.mem_cons.mp hx with rfl | hx
          · exact .tail _ (.tail _ (.tail _ (.head _)))
          · cases hx
  · intro us hus
    obtain ⟨u1, us, rfl, h1, z1⟩ := atC hus
    obtain ⟨u2, us, rfl, h2, z2⟩ := atC z1
    obtain ⟨u3, u4, rfl, h3, h4⟩ := at2 z2
    ·
      obtain ⟨e1, e2, e3, e4⟩ := bind555 u1 u2 u3 u4
      refine ⟨?_, ?_⟩
      · simp only [List.forall_mem_cons]
        refine ⟨?_, ?_, ?_, trivial, trivial, trivial, trivial, trivial, trivial, trivial, fun _ h => by cases h⟩
        · rw [show bindL _ (List.zip _ _) _ _ = _ from e1]; exact h2
        · rw [show bindL _ (List.zip _ _) _ _ = _ from e2]; exact V.at_loc h3
        · rw [show bindL _ (List.zip _ _) _ _ = _ from e3]; exact h4
      · show ∀ p ∈ [(("key" : Str), V.unset), ("j", V.unset), ("keys", V.cst (.ref kl))], _
        simp only [List.forall_mem_cons]
        refine ⟨trivial, trivial, ?_, fun _ h => by cases h⟩
        rw [show bindC _ (List.zip _ _) _ _ = _ from e4]; exact h1
  · obtain ⟨a3, as, rfl, z1⟩ := lenC has
    obtain ⟨a2, as, rfl, z2⟩ := lenC z1
    obtain ⟨a1, as, rfl, z3⟩ := lenC z2
    cases len0 z3
    ·
      subst hg
      have F := kfn555 G
      show WSs c _ _ ⟨[("values", .cst (.ref vl)), ("interval", .int I), ("order", .cst (.ref order)), ("builder", .unset), ("body", .unset), ("places", .unset), ("value", .unset), ("shared", .unset), ("out", .unset), ("place", .unset)], [], [("key", a3), ("j", a2), ("keys", a1)],
        (a3, .cell .unset) :: (a2, .cell .unset) :: (a1, .cell (.cst (.ref kl))) :: led⟩ _
      refine ss_cons ?_
      refine s_assign ?_ rfl
      refine e_call ?_ rfl rfl
      refine e_gl F he g555_BlockBuilder (has_BlockBuilder G) ?_
      refine ⟨_, rfl, kkeep214 G, ?_⟩
      refine sw_cons ?_
      refine e_loc (.tail _ (.head _)) rfl ?_
      refine sw_cons ?_
      refine e_loc (.tail _ (.tail _ (.head _))) rfl ?_
      refine sw_nil ?_
      refine call_class (X := NoX) (Q0 := fun x led' => ∃ dx buf rs, led' = (rs, .list [.int 0]) :: (buf, .ba []) :: (x, bldOb dx order buf rs I 0 0 false []) :: (a3, .cell .unset) :: (a2, .cell .unset) :: (a1, .cell (.cst (.ref kl))) :: led) (kmakes214 G) (show 1 + 1 ≤ c.n by walk_at "o") (fun x dx => ?_) (fun _ _ hz => ?_) (fun bx led' hq => ?_)
      · intro c' σ' s A us hg hR hl hA hr hv
        exact wpS_mono (builder_init_spec G (I : Int) (by walk_at "o") x dx order _ c' σ' s A us hg hR hl hA hr hv) (fun u s' zq => by obtain ⟨v, led', R', hv, e, buf, rs, q⟩ := zq; exact ⟨v, led', R', hv, e, dx, buf, rs, q⟩) fun _ _ z => z
      · obtain ⟨_, _, _, _, z⟩ := hz
        exact z.elim
      · obtain ⟨dx, buf, rs, rfl⟩ := hq
        refine ⟨_, (.tail _ (.tail _ (.tail _ (.head _ _)))), ?_⟩
        refine ss_cons ?_
        refine s_assign ?_ rfl
        refine e_bytes ?_
        refine ⟨_, (.tail _ (.tail _ (.tail _ (.tail _ (.head _ _))))), ?_⟩
        refine ss_cons ?_
        refine s_assign ?_ rfl
        refine e_list rfl ?_
        refine sw_nil ⟨Nat.le_of_ble_eq_true rfl, fun _ => ?_⟩
        refine ⟨_, (.tail _ (.tail _ (.tail _ (.tail _ (.tail _ (.head _ _)))))), ?_⟩
        dsimp only
        rename_i pl
        refine ss_sub (led' := (rs, .list (natsV (rsB ks vs I 0))) :: (buf, .ba (bodyB ks vs I 0)) :: (bx, bldOb dx order buf rs I (sinB I 0) (0 : Nat) false (lastB ks 0)) :: (pl, .list (natsV (plcB ks vs I 0))) :: (a3, .cell .unset) :: (a2, .cell .unset) :: (a1, .cell (.cst (.ref kl))) :: led) ?_ ?_
        · show Sub ((pl, Ob.list []) :: (rs, .list [.int 0]) :: (buf, .ba []) :: (bx, bldOb dx order buf rs I 0 0 false []) :: (a3, .cell .unset) :: (a2, .cell .unset) :: (a1, .cell (.cst (.ref kl))) :: led) ((rs, .list [.int 0]) :: (buf, .ba []) :: (bx, bldOb dx order buf rs I 0 0 false []) :: (pl, Ob.list []) :: (a3, .cell .unset) :: (a2, .cell .unset) :: (a1, .cell (.cst (.ref kl))) :: led)
          walk_at "sub"
        refine ss_cutr (fun σ' => ∃ jv kv vv sv, σ' = bldSt kl vl order I ks vs a1 a2 a3 bx dx buf rs pl led n jv kv vv sv) ?_ ?_
        · refine FW.monoE (E := fun _ _ => False) ?_ (fun _ _ z => z.elim)
          refine s_forR (fun _ => rfl) n (by walk_at "o") (fun k σ' => k ≤ n ∧ ∃ jv kv vv sv, σ' = bldSt kl vl order I ks vs a1 a2 a3 bx dx buf rs pl led k jv kv vv sv) ?_ ?_ ?_
          · refine e_call ?_ rfl rfl
            refine e_gl F he g555_range (has_range G) ?_
            refine ⟨_, rfl, keep_type, ?_⟩
            refine sw_cons ?_
            refine e_call ?_ rfl rfl
            refine e_gl F he g555_len (has_len G) ?_
            refine ⟨_, rfl, keep_builtin, ?_⟩
            refine sw_cons ?_
            refine e_cel (.tail _ (.tail _ (.head _))) (by walk_at "mem") rfl ?_
            refine sw_nil ?_
            refine call_lenL (by walk_at "mem") (by walk_at "o") ?_
            refine sw_nil ?_
            refine call_range fun r => ?_
            rw [hnl, b1]
            exact ⟨r, _, rfl, rfl, Nat.zero_le _, .unset, .unset, .unset, .unset, rfl⟩
          · rintro k _ it ob hkn ⟨_, jv, kv, vv, sv, rfl⟩
            have hKO := b7 k hkn
            have hkl := hKO.1
            have hvl := b8 k hkn
            have hbl : (bodyB ks vs I k).length ≤ 60000 := Nat.le_trans (bodyB_le ks vs I (Nat.le_of_lt hkn)) b11
            have hbl2 : (bodyB ks vs I (k + 1)).length ≤ 60000 := Nat.le_trans (bodyB_le ks vs I hkn) b11
            have hpl := plcB_length ks vs I k
            have hpl2 := plcB_length ks vs I (k + 1)
            have hrl : (natsV (rsB ks vs I k)).length ≤ 1000 := by
              rw [natsV_length]; unfold rsB; split
              · simp
              · (walk_at "o")
            have hsh : shB ks I k ≤ (ks.getD k []).length := by
              unfold shB; split
              · (walk_at "o")
              · exact (lcp_le _ _).2
            have tj : ((k : Int)).toNat = k := toNat_cast k
            refine ⟨_, storeTo_cel (kindOf_of F he gc555_j) (.tail _ (.head _)) (by walk_at "upd"), ?_⟩
            show WSs c _ _ ⟨[("values", .cst (.ref vl)), ("interval", .int I), ("order", .cst (.ref order)), ("builder", .cst (.ref bx)), ("body", .bytes (bodyB ks vs I k)), ("places", .cst (.ref pl)), ("value", vv), ("shared", sv), ("out", .unset), ("place", .unset)], [],
              [("key", a3), ("j", a2), ("keys", a1)],
              (it, ob) :: (rs, .list (natsV (rsB ks vs I k))) :: (buf, .ba (bodyB ks vs I k)) :: (bx, bldOb dx order buf rs I (sinB I k) k false (lastB ks k)) :: (pl, .list (natsV (plcB ks vs I k))) :: (a3, .cell kv) :: (a2, .cell (.int k)) :: (a1, .cell (.cst (.ref kl))) :: led⟩ _
            refine ss_cons ?_
            refine s_assignT ?_ rfl
            refine e_sub ?_
            refine e_cel (.tail _ (.tail _ (.head _))) (by walk_at "mem") rfl ?_
            refine e_cel (.tail _ (.head _)) (by walk_at "mem") rfl ?_
            refine so_list (by walk_at "mem") (by walk_at "sc") (by walk_at "sc") (by walk_at "item") ?_
            refine ⟨_, storeTo_cel (kindOf_of F he gc555_key) (.head _) (by walk_at "upd"), ?_⟩
            refine ss_cons ?_
            refine s_assign ?_ rfl
            refine e_sub ?_
            refine e_loc (.head _) rfl ?_
            refine e_cel (.tail _ (.head _)) (by walk_at "mem") rfl ?_
            refine so_list (by walk_at "mem") (by walk_at "sc") (by walk_at "sc") (by walk_at "item") ?_
            refine ⟨_, (.tail _ (.tail _ (.tail _ (.tail _ (.tail _ (.tail _ (.head _ _))))))), ?_⟩
            rw [tj]
            dsimp only
            generalize hkey : ks.getD k [] = key at *
            generalize hval : vs.getD k [] = value at *
            refine ss_sub (led' := (rs, .list (natsV (rsB ks vs I k))) :: (buf, .ba (bodyB ks vs I k)) :: (bx, bldOb dx order buf rs I (sinB I k) k false (lastB ks k)) :: (it, ob) :: (pl, .list (natsV (plcB ks vs I k))) :: (a3, .cell (.bytes key)) :: (a2, .cell (.int k)) :: (a1, .cell (.cst (.ref kl))) :: led) (by walk_at "sub") ?_
            refine ss_cons ?_
            refine s_exprn ?_ rfl
            refine e_meth ?_ rfl rfl (by decide) rfl
            refine e_loc (mem_ix 3 rfl) rfl ?_
            refine mo_inst (.tail _ (.tail _ (.head _))) (kcls214 G) (kmeth214_add G) (by exact nm214_add) ⟨kkeep204 G, ?_⟩
            refine sw_cons ?_
            refine e_cel (.head _) (by walk_at "mem") rfl ?_
            refine sw_cons ?_
            refine e_loc (mem_ix 6 rfl) rfl ?_
            refine sw_nil ?_
            have hlast : lastB ks k = if k = 0 then [] else ks.getD (k - 1) [] := rfl
            refine FnS.callP (add_spec G (x := bx) (internal := internal) (hO.mono fun p hp => .tail _ (.tail _ (.tail _ (.tail _ (.tail _ hp))))) hKO (fun h0 => ?_) ?_ hvl (by walk_at "o") (by walk_at "o")) (by walk_at "o") ?_
            · have hk0 : 0 < k := by walk_at "o"
              rw [hlast, if_neg (by walk_at "o")]
              refine ⟨b7 (k - 1) (by walk_at "o"), ?_⟩
              have := b9 (k - 1) (by walk_at "o")
              rw [show k - 1 + 1 = k by walk_at "o", hkey] at this
              exact this
            · rw [hlast]; split
              · simp
              · exact (b7 (k - 1) (by walk_at "o")).1
            refine ⟨trivial, ?_⟩
            have i1 : (((sinB I k : Nat) : Int) < (I : Int)) = (sinB I k < I) := by rw [Int.ofNat_lt]
            simp only [i1]
            have i2 : (if sinB I k < I then natsV (rsB ks vs I k) else natsV (rsB ks vs I k) ++ [V.int (bodyB ks vs I k).length]) = natsV (rsB ks vs I (k + 1)) := rsB_succ b5
            have i3 : (if sinB I k < I then lcp (lastB ks k) key else 0) = shB ks I k := by rw [← hkey]; exact shB_of b5
            have i4 : (if sinB I k < I then ((sinB I k : Nat) : Int) else 0) + 1 = ((sinB I (k + 1) : Nat) : Int) := by
              rw [← sinB_succ b5]; split <;> (walk_at "o")
            have i5 : added (bodyB ks vs I k) (shB ks I k) key value = bodyB ks vs I (k + 1) := by rw [← hkey, ← hval]; rfl
            have i6 : lastB ks (k + 1) = key := by rw [lastB_succ, hkey]
            have i7 : ∀ a b' : Int, bldOb dx order buf rs I a b' false key = bldOb dx order buf rs I a b' false (lastB ks (k + 1)) := fun a b' => by rw [i6]
            rw [i2, i3, i4, i5, show (k : Int) + 1 = ((k + 1 : Nat) : Int) by walk_at "o", i7]
            refine ss_cons ?_
            refine s_assign ?_ rfl
            refine e_int ?_
            refine ⟨_, (.tail _ (.tail _ (.tail _ (.tail _ (.tail _ (.tail _ (.tail _ (.head _ _)))))))), ?_⟩
            dsimp only
            refine ss_cut (fun σ' => σ' = ⟨[("values", .cst (.ref vl)), ("interval", .int I), ("order", .cst (.ref order)), ("builder", .cst (.ref bx)), ("body", .bytes (bodyB ks vs I k)), ("places", .cst (.ref pl)), ("value", .bytes value), ("shared", .int (shB ks I k : Nat)), ("out", .unset), ("place", .unset)], [],
              [("key", a3), ("j", a2), ("keys", a1)],
              (rs, .list (natsV (rsB ks vs I (k + 1)))) :: (buf, .ba (bodyB ks vs I (k + 1))) :: (bx, bldOb dx order buf rs I (sinB I (k + 1)) (k + 1 : Nat) false (lastB ks (k + 1))) :: (it, ob) :: (pl, .list (natsV (plcB ks vs I (k + 1)))) :: (a3, .cell (.bytes key)) :: (a2, .cell (.int k)) :: (a1, .cell (.cst (.ref kl))) :: led⟩) ?_ ?_
            · apply s_ifp
              · apply bp_cmp (hm := rfl)
                refine e_bin ?_
                refine e_cel (.tail _ (.head _)) (by walk_at "mem") rfl ?_
                refine e_loc (.tail _ (.head _)) rfl ?_
                refine o_mod (by walk_at "sc") ?_
                refine e_int ?_
                refine c_eq ?_
                refine t_bool ⟨rfl, rfl⟩
              · intro hp
                have hp := of_decide_eq_true hp
                have hm : k % I = 0 := by
                  have : ((k % I : Nat) : Int) = 0 := by rw [Int.natCast_emod]; exact hp
                  (walk_at "o")
                have e1 : plcB ks vs I (k + 1) = plcB ks vs I k ++ [(bodyB ks vs I k).length] := if_pos hm
                have e2 : natsV (plcB ks vs I (k + 1)) = natsV (plcB ks vs I k) ++ [V.int (bodyB ks vs I k).length] := by rw [e1]; simp [natsV]
                have e3 : shB ks I k = 0 := if_pos hm
                have hnp := natsV_length (plcB ks vs I k)
                rw [e2, e3]
                refine ss_cons ?_
                refine s_exprn ?_ rfl
                refine e_meth ?_ rfl rfl (by decide) rfl
                refine e_loc (mem_ix 5 rfl) rfl ?_
                refine mo_append (by walk_at "mem") ⟨keep_builtin, ?_⟩
                refine sw_cons ?_
                refine e_call ?_ rfl rfl
                refine e_gl F he g555_len (has_len G) ?_
                refine ⟨_, rfl, keep_builtin, ?_⟩
                refine sw_cons ?_
                refine e_loc (mem_ix 4 rfl) rfl ?_
                refine sw_nil ?_
                refine call_lenB (by walk_at "sc") ?_
                refine sw_nil ?_
                refine call_append (by walk_at "upd") (by walk_at "sc") ?_
                refine ⟨trivial, ?_⟩
                refine ss_nil ?_
                exact ⟨rfl, rfl⟩
              · intro hp
                have hp := of_decide_eq_false hp
                have hm : k % I ≠ 0 := fun q => hp (by rw [← Int.natCast_emod, q]; rfl)
                have hk0 : 0 < k := by
                  rcases Nat.eq_zero_or_pos k with q | q
                  · exact absurd (by rw [q]; exact Nat.zero_mod I) hm
                  · exact q
                have e1 : plcB ks vs I (k + 1) = plcB ks vs I k := if_neg hm
                have e3 : shB ks I k = lcp (ks.getD (k - 1) []) key := by rw [← hkey]; exact if_neg hm
                have hne : lcp (ks.getD (k - 1) []) key < key.length := by
                  have := b10 (k - 1) (by walk_at "o")
                  rw [show k - 1 + 1 = k by walk_at "o", hkey] at this
                  exact this
                have hpk := (b7 (k - 1) (by walk_at "o")).1
                generalize hprev : ks.getD (k - 1) [] = prev at *
                refine ss_cons ?_
                refine s_assign ?_ rfl
                refine e_call ?_ rfl rfl
                refine e_gl F he g555_max (has_max G) ?_
                refine ⟨_, rfl, keep_builtin, ?_⟩
                refine sw_cons ?_
                refine e_comp [("j", a2), ("key", a3), ("keys", a1)] [] scope_comp3 (fun _ h => by cases h) ?_ ?_
                · intro q hq
                  rcases List.mem_cons.mp hq with rfl | hq
                  · exact .tail _ (.head _)
                  · rcases List.mem_cons.mp hq with rfl | hq
                    · exact .head _
                    · rcases List.mem_cons.mp hq with rfl | hq
                      · exact .tail _ (.tail _ (.head _))
                      · cases hq
                refine e_call ?_ rfl rfl
                refine e_gl F he g555_range (has_range G) ?_
                refine ⟨_, rfl, keep_type, ?_⟩
                refine sw_cons ?_
                refine e_call ?_ rfl rfl
                refine e_gl F he g555_len (has_len G) ?_
                refine ⟨_, rfl, keep_builtin, ?_⟩
                refine sw_cons ?_
                refine e_cel (.head _) (by walk_at "mem") rfl ?_
                refine sw_nil ?_
                refine call_lenB (by walk_at "o") ?_
                refine sw_nil ?_
                refine call_range fun r => ?_
                refine ⟨key.length, fun k => .int k, _, fun i => decide (key.take i = prev.take i), fun i => .int i, src_range rfl (by walk_at "o"), by walk_at "o", ?_, fun acc => ?_⟩
                · intro c' hg' hn'
                  refine ⟨.inr ⟨_, rfl, fun i hi led' hled => ?_⟩, fun i hi _ led' hled => ?_⟩
                  · apply bp_cmp (hm := rfl)
                    refine e_slice ?_
                    refine e_cel (.tail _ (.head _)) (hled _ (by walk_at "mem")) rfl ?_
                    refine e_loc (.head _) rfl ?_
                    refine ⟨_, rfl, ?_⟩
                    refine sl_bytes (by walk_at "o") ?_
                    rw [cutB_take]
                    refine e_slice ?_
                    refine e_sub ?_
                    refine e_cel (.tail _ (.tail _ (.head _))) (hled _ (by walk_at "mem")) rfl ?_
                    refine e_bin ?_
                    refine e_cel (.head _) (hled _ (by walk_at "mem")) rfl ?_
                    refine e_int ?_
                    refine o_sub ?_
                    refine so_list (hled _ (by walk_at "mem")) (by walk_at "o") (by walk_at "o") (bytesV_item (by walk_at "o") (by walk_at "o")) ?_
                    rw [show ((k : Int) - 1).toNat = k - 1 by walk_at "o", hprev]
                    refine e_loc (.head _) rfl ?_
                    refine ⟨_, rfl, ?_⟩
                    refine sl_bytes (by walk_at "o") ?_
                    rw [cutB_take]
                    refine c_eqB ?_
                    exact t_bool ⟨rfl, rfl⟩
                  · exact e_loc (.head _) rfl ⟨rfl, rfl⟩
                · refine sw_nil ?_
                  have ey : ysOf (fun i => decide (key.take i = prev.take i)) (fun i => V.int i) key.length = intsV (((List.range key.length).filter fun i => decide (key.take i = prev.take i)).map fun (i : Nat) => (i : Int)) := by
                    unfold ysOf intsV; rw [List.map_map]; rfl
                  rw [ey]
                  have hin : ((lcp prev key : Nat) : Int) ∈ ((List.range key.length).filter fun i => decide (key.take i = prev.take i)).map fun (i : Nat) => (i : Int) := by
                    refine List.mem_map.mpr ⟨lcp prev key, List.mem_filter.mpr ⟨List.mem_range.mpr hne, ?_⟩, rfl⟩
                    exact decide_eq_true ((take_lcp prev key _ (by walk_at "o")).mpr (Nat.le_refl _))
                  refine call_maxL (.head _) (List.ne_nil_of_mem hin) fun M hM hmax => ?_
                  have hMe : M = ((shB ks I k : Nat) : Int) := by
                    obtain ⟨i, hi, rfl⟩ := List.mem_map.mp hM
                    obtain ⟨hi1, hi2⟩ := List.mem_filter.mp hi
                    have h1 := (take_lcp prev key i (Nat.le_of_lt (List.mem_range.mp hi1))).mp (of_decide_eq_true hi2)
                    have h2 := hmax _ hin
                    rw [e3]; (walk_at "o")
                  rw [hMe]
                  refine ⟨_, (.tail _ (.tail _ (.tail _ (.tail _ (.tail _ (.tail _ (.tail _ (.head _ _)))))))), ?_⟩
                  rw [e1]
                  refine ss_sub (.skip (.refl _)) ?_
                  refine ss_nil ?_
                  exact ⟨rfl, rfl⟩
            · rintro _ rfl
              refine ss_cons ?_
              refine s_assign ?_ rfl
              refine e_bin ?_
              refine e_bin ?_
              refine e_bin ?_
              refine e_loc (mem_ix 4 rfl) rfl ?_
              refine e_call ?_ rfl rfl
              refine e_gl F he g555_bytes (has_bytes G) ?_
              refine ⟨_, rfl, keep_type, ?_⟩
              refine sw_cons ?_
              refine e_list rfl ?_
              refine sw_cons ?_
              refine e_loc (mem_ix 7 rfl) rfl ?_
              refine sw_cons ?_
              refine e_bin ?_
              refine e_call ?_ rfl rfl
              refine e_gl F he g555_len (has_len G) ?_
              refine ⟨_, rfl, keep_builtin, ?_⟩
              refine sw_cons ?_
              refine e_cel (.head _) (by walk_at "mem") rfl ?_
              refine sw_nil ?_
              refine call_lenB (by walk_at "o") ?_
              refine e_loc (mem_ix 7 rfl) rfl ?_
              refine o_sub ?_
              refine sw_cons ?_
              refine e_call ?_ rfl rfl
              refine e_gl F he g555_len (has_len G) ?_
              refine ⟨_, rfl, keep_builtin, ?_⟩
              refine sw_cons ?_
              refine e_loc (mem_ix 6 rfl) rfl ?_
              refine sw_nil ?_
              refine call_lenB (by walk_at "o") ?_
              refine sw_nil ⟨Nat.le_of_ble_eq_true rfl, fun _ => ?_⟩
              refine sw_nil ?_
              refine call_bytesN [_, _, _] (.head _) rfl (by walk_at "octs") (Nat.le_of_ble_eq_true rfl) ?_
              refine o_addB (by walk_at "sc") ?_
              refine e_slice ?_
              refine e_cel (.head _) (by walk_at "mem") rfl ?_
              refine e_loc (mem_ix 7 rfl) rfl ?_
              refine ⟨_, rfl, ?_⟩
              refine sl_bytes (by walk_at "o") ?_
              rw [cutB_from hsh]
              have l1 : (key.drop (shB ks I k)).length ≤ 100 := by rw [List.length_drop]; (walk_at "o")
              refine o_addB (by walk_at "sc") ?_
              refine e_loc (mem_ix 6 rfl) rfl ?_
              refine o_addB (by walk_at "sc") ?_
              rw [law_entry, i5]
              refine ⟨_, (.tail _ (.tail _ (.tail _ (.tail _ (.head _ _))))), ?_⟩
              have hnp2 := natsV_length (plcB ks vs I (k + 1))
              have hrs2 : rsB ks vs I (k + 1) = plcB ks vs I (k + 1) := by unfold rsB; rw [if_neg (by walk_at "o")]
              refine ss_sub (.skip (.refl _)) ?_
              refine ss_cons ?_
              refine s_ifp (p := decide ((k : Int) % 13 = 0) && false) ?_ (fun hp => by rw [Bool.and_false] at hp; cases hp) fun _ => ?_
              · refine bp_and ?_ fun _ => ?_
                · apply bp_cmp (hm := rfl)
                  refine e_bin ?_
                  refine e_cel (.tail _ (.head _)) (by walk_at "mem") rfl ?_
                  refine e_int ?_
                  refine o_mod (by walk_at "o") ?_
                  refine e_int ?_
                  refine c_eq ?_
                  exact t_bool ⟨rfl, rfl⟩
                · apply bp_cmp (hm := rfl)
                  refine e_meth ?_ rfl rfl (by decide) rfl
                  refine e_loc (mem_ix 3 rfl) rfl ?_
                  refine mo_inst (.tail _ (.tail _ (.head _))) (kcls214 G) (kmeth214_estimate G) (by exact nm214_estimate) ⟨kkeep197 G, ?_⟩
                  refine sw_nil ?_
                  refine FnS.callP (estimate_spec G (.tail _ (.tail _ (.head _))) (.tail _ (.head _)) (.head _) (by walk_at "o") (by rw [natsV_length, hrs2]; (walk_at "o"))) (by walk_at "o") ?_
                  rw [hrs2]
                  refine e_bin ?_
                  refine e_bin ?_
                  refine e_call ?_ rfl rfl
                  refine e_gl F he g555_len (has_len G) ?_
                  refine ⟨_, rfl, keep_builtin, ?_⟩
                  refine sw_cons ?_
                  refine e_loc (mem_ix 4 rfl) rfl ?_
                  refine sw_nil ?_
                  refine call_lenB (by walk_at "o") ?_
                  refine e_bin ?_
                  refine e_int ?_
                  refine e_call ?_ rfl rfl
                  refine e_gl F he g555_len (has_len G) ?_
                  refine ⟨_, rfl, keep_builtin, ?_⟩
                  refine sw_cons ?_
                  refine e_loc (mem_ix 5 rfl) rfl ?_
                  refine sw_nil ?_
                  refine call_lenL (by walk_at "mem") (by walk_at "o") ?_
                  refine o_mul (.inl (by decide)) ?_
                  refine o_add ?_
                  refine e_int ?_
                  refine o_add ?_
                  refine c_ne ?_
                  refine t_bool ⟨rfl, ?_⟩
                  rw [decide_eq_false (fun h => h rfl)]
              · refine ss_nil ?_
                refine ss_nil ?_
                refine ⟨(rs, .list (natsV (rsB ks vs I (k + 1)))) :: (buf, .ba (bodyB ks vs I (k + 1))) :: (bx, bldOb dx order buf rs I (sinB I (k + 1)) (k + 1 : Nat) false (lastB ks (k + 1))) :: (pl, .list (natsV (plcB ks vs I (k + 1)))) :: (a3, .cell (.bytes key)) :: (a2, .cell (.int k)) :: (a1, .cell (.cst (.ref kl))) :: led, by walk_at "sub", hkn, .int k, .bytes key, _, _, rfl⟩
          · rintro _ ⟨_, jv, kv, vv, sv, rfl⟩
            exact ⟨jv, kv, vv, sv, rfl⟩
        · rintro _ ⟨jv, kv, vv, sv, rfl⟩
          have hbl : (bodyB ks vs I n).length ≤ 60000 := b11
          have hpl := plcB_length ks vs I n
          have hnp := natsV_length (plcB ks vs I n)
          have hrs : rsB ks vs I n = plcB ks vs I n := by unfold rsB; rw [if_neg (by walk_at "o")]
          have hpm : ∀ p ∈ plcB ks vs I n, p < 65536 := fun p hp => by have := plcB_mem ks vs I n p hp; (walk_at "o")
          unfold bldSt
          refine ss_cons ?_
          refine s_assign ?_ rfl
          refine e_loc (mem_ix 4 rfl) rfl ?_
          refine ⟨_, (.tail _ (.tail _ (.tail _ (.tail _ (.tail _ (.tail _ (.tail _ (.tail _ (.head _ _))))))))), ?_⟩
          dsimp only
          refine ss_cut (fun σ' => ∃ pv, σ' = ⟨[("values", .cst (.ref vl)), ("interval", .int I), ("order", .cst (.ref order)), ("builder", .cst (.ref bx)), ("body", .bytes (bodyB ks vs I n)), ("places", .cst (.ref pl)), ("value", vv), ("shared", sv), ("out", .bytes (bodyB ks vs I n ++ tabl (plcB ks vs I n))), ("place", pv)], [],
            [("key", a3), ("j", a2), ("keys", a1)],
            (rs, .list (natsV (rsB ks vs I n))) :: (buf, .ba (bodyB ks vs I n)) :: (bx, bldOb dx order buf rs I (sinB I n) n false (lastB ks n)) :: (pl, .list (natsV (plcB ks vs I n))) :: (a3, .cell kv) :: (a2, .cell jv) :: (a1, .cell (.cst (.ref kl))) :: led⟩) ?_ ?_
          · refine FW.monoE (E := fun _ _ => False) ?_ (fun _ _ z => z.elim)
            refine s_for_list (fun k σ' => ∃ pv, σ' = ⟨[("values", .cst (.ref vl)), ("interval", .int I), ("order", .cst (.ref order)), ("builder", .cst (.ref bx)), ("body", .bytes (bodyB ks vs I n)), ("places", .cst (.ref pl)), ("value", vv), ("shared", sv), ("out", .bytes (bodyB ks vs I n ++ tabl ((plcB ks vs I n).take k))), ("place", pv)], [],
              [("key", a3), ("j", a2), ("keys", a1)],
              (rs, .list (natsV (rsB ks vs I n))) :: (buf, .ba (bodyB ks vs I n)) :: (bx, bldOb dx order buf rs I (sinB I n) n false (lastB ks n)) :: (pl, .list (natsV (plcB ks vs I n))) :: (a3, .cell kv) :: (a2, .cell jv) :: (a1, .cell (.cst (.ref kl))) :: led⟩) (natsV (plcB ks vs I n)) pl (fun _ => rfl) ?_ ?_ ?_ ?_
            · refine e_loc (mem_ix 5 rfl) rfl ?_
              exact ⟨rfl, .tail _ (.tail _ (.tail _ (.head _))), .unset, by simp only [List.take_zero, tabl, List.flatMap_nil, List.append_nil]⟩
            · rintro k _ ⟨pv, rfl⟩
              exact .tail _ (.tail _ (.tail _ (.head _)))
            · rintro k _ it hk ⟨pv, rfl⟩
              rw [natsV_length] at hk
              have hlt := hpm ((plcB ks vs I n).getD k 0) (by rw [List.getD_eq_getElem?_getD, List.getElem?_eq_getElem hk]; exact List.getElem_mem hk)
              have hl4 := tabl_length ((plcB ks vs I n).take k)
              have hl5 : ((plcB ks vs I n).take k).length ≤ (plcB ks vs I n).length := by simp; (walk_at "o")
              have hl6 := lnum_length ((plcB ks vs I n).getD k 0)
              refine ⟨_, .tail _ (.tail _ (.tail _ (.tail _ (.tail _ (.tail _ (.tail _ (.tail _ (.tail _ (.head _ _))))))))), ?_⟩
              rw [natsV_getD hk]
              refine ss_cons ?_
              refine s_assign ?_ rfl
              refine e_bin ?_
              refine e_loc (mem_ix 8 rfl) rfl ?_
              refine e_call ?_ rfl rfl
              refine e_gl F he g555__law_number (has__law_number G) ?_
              refine ⟨_, rfl, kkeep550 G, ?_⟩
              refine sw_cons ?_
              refine e_loc (mem_ix 9 rfl) rfl ?_
              refine sw_nil ?_
              refine FnS.callP (law_number_spec G _ hlt _) (by walk_at "o") ?_
              refine o_addB (by rw [List.length_append]; (walk_at "o")) ?_
              refine ⟨_, (.tail _ (.tail _ (.tail _ (.tail _ (.tail _ (.tail _ (.tail _ (.tail _ (.head _ _))))))))), ?_⟩
              refine ss_nil ?_
              exact ⟨_, .refl _, _, by rw [tabl_take hk, lnum_b32 hlt, ← List.append_assoc]⟩
            · rintro _ ⟨pv, rfl⟩
              exact ⟨rfl, pv, by rw [natsV_length, List.take_length]⟩
          · rintro _ ⟨pv, rfl⟩
            have hl4 := tabl_length (plcB ks vs I n)
            have hl6 := lnum_length (plcB ks vs I n).length
            refine ss_cons ?_
            refine s_assign ?_ rfl
            refine e_bin ?_
            refine e_loc (mem_ix 8 rfl) rfl ?_
            refine e_call ?_ rfl rfl
            refine e_gl F he g555__law_number (has__law_number G) ?_
            refine ⟨_, rfl, kkeep550 G, ?_⟩
            refine sw_cons ?_
            refine e_call ?_ rfl rfl
            refine e_gl F he g555_len (has_len G) ?_
            refine ⟨_, rfl, keep_builtin, ?_⟩
            refine sw_cons ?_
            refine e_loc (mem_ix 5 rfl) rfl ?_
            refine sw_nil ?_
            refine call_lenL (by walk_at "mem") (by walk_at "o") ?_
            rw [hnp]
            refine sw_nil ?_
            refine FnS.callP (law_number_spec G _ (by walk_at "o") _) (by walk_at "o") ?_
            refine o_addB (by rw [List.length_append]; (walk_at "o")) ?_
            rw [lnum_b32 (show (plcB ks vs I n).length < 65536 by walk_at "o")]
            refine ⟨_, (.tail _ (.tail _ (.tail _ (.tail _ (.tail _ (.tail _ (.tail _ (.tail _ (.head _ _))))))))), ?_⟩
            refine ss_cons ?_
            refine s_if ?_
            refine b_cmp ?_ rfl
            refine e_meth ?_ rfl rfl (by decide) rfl
            refine e_loc (mem_ix 3 rfl) rfl ?_
            refine mo_inst (.tail _ (.tail _ (.head _))) (kcls214 G) (kmeth214_finish G) (by exact nm214_finish) ⟨kkeep211 G, ?_⟩
            refine sw_nil ?_
            refine FnS.callP (finish_spec G (x := bx) (places := rsB ks vs I n) (by walk_at "o") (by rw [hrs]; (walk_at "o")) (fun p hp => by rw [hrs] at hp; have := hpm p hp; (walk_at "o"))) (by walk_at "o") ?_
            rw [hrs]
            refine e_loc (mem_ix 8 rfl) rfl ?_
            refine c_neB ?_
            rw [decide_eq_false (fun h => h rfl)]
            refine t_bool ⟨fun h => absurd h (by decide), fun _ => ?_⟩
            refine ss_nil ?_
            refine ss_cons ?_
            refine s_ret ?_
            refine e_tuple rfl ?_
            refine sw_cons ?_
            refine e_loc (mem_ix 8 rfl) rfl ?_
            refine sw_cons ?_
            refine e_loc (mem_ix 5 rfl) rfl ?_
            refine sw_nil ⟨Nat.le_of_ble_eq_true rfl, fun _ => ?_⟩
            refine ⟨_, ?_, _, pl, rfl, rfl⟩
            walk_at "sub"
            exact .skip (.skip (.skip (.skip (.skip (.skip (.refl _))))))
end
noncomputable def blk (b : List UInt8) (P : List Nat) : List UInt8 := b ++ tabl P ++ b32 P.length
theorem getD_append_right' (A B : List UInt8) (k : Nat) : (A ++ B).getD (A.length + k) 0 = B.getD k 0 := by
  simp [List.getD_eq_getElem?_getD, List.getElem?_append_right]
theorem oct_toNat {k : Nat} (h : k < 256) : (k.toUInt8).toNat = k := by simp only [Nat.toUInt8, UInt8.toNat_ofNat']; (walk_at "o")
theorem u32_b32 (A B : List UInt8) (v : Nat) (hv : v < 4294967296) : u32 (A ++ (b32 v ++ B)) A.length = v := by
  unfold u32
  have h0 := getD_append_right' A (b32 v ++ B) 0
  rw [Nat.add_zero] at h0
  rw [h0, getD_append_right', getD_append_right', getD_append_right']
  unfold b32
  simp only [List.cons_append, List.getD_cons_zero, List.getD_cons_succ]
  rw [oct_toNat (by walk_at "o"), oct_toNat (by walk_at "o"), oct_toNat (by walk_at "o"), oct_toNat (by walk_at "o")]
  (walk_at "o")
theorem tabl_cons (p : Nat) (P : List Nat) : tabl (p :: P) = b32 p ++ tabl P := rfl
theorem tabl_append (P P' : List Nat) : tabl (P ++ P') = tabl P ++ tabl P' := by unfold tabl; exact List.flatMap_append ..
theorem tabl_split (P : List Nat) {k : Nat} (h : k < P.length) : tabl P = tabl (P.take k) ++ (b32 (P.getD k 0) ++ tabl (P.drop (k + 1))) := by
  have e : P = P.take k ++ (P.getD k 0 :: P.drop (k + 1)) := by
    rw [List.getD_eq_getElem?_getD, List.getElem?_eq_getElem h]
    simp
  conv => lhs; rw [e]
  rw [tabl_append, tabl_cons]
section
variable {b : List UInt8} {P : List Nat}
theorem blk_length : (blk b P).length = b.length + 4 * P.length + 4 := by
  unfold blk
  rw [List.length_append, List.length_append, tabl_length, b32_length]
theorem blk_cnt (hP : P.length < 4294967296) : cntOf (blk b P) = P.length := by
  unfold cntOf
  have e : (blk b P).length - 4 = (b ++ tabl P).length := by rw [blk_length, List.length_append, tabl_length]; (walk_at "o")
  rw [e]
  have := u32_b32 (b ++ tabl P) [] P.length hP
  rw [List.append_nil] at this
  exact this
theorem blk_lim (hP : P.length < 4294967296) : limOf (blk b P) = b.length := by
  unfold limOf
  rw [blk_cnt hP, blk_length]; (walk_at "o")
theorem blk_tab (hP : P.length < 4294967296) {k : Nat} (hk : k < P.length) (hv : P.getD k 0 < 4294967296) : tabOf (blk b P) k = P.getD k 0 := by
  unfold tabOf
  rw [blk_lim hP]
  have l : (b ++ tabl (P.take k)).length = b.length + 4 * k := by rw [List.length_append, tabl_length, List.length_take]; (walk_at "o")
  rw [← l]
  have e : blk b P = (b ++ tabl (P.take k)) ++ (b32 (P.getD k 0) ++ (tabl (P.drop (k + 1)) ++ b32 P.length)) := by
    unfold blk
    conv => lhs; rw [tabl_split P hk]
    simp only [List.append_assoc]
  rw [e]
  exact u32_b32 _ _ _ hv
theorem blk_ok (h1 : 1 ≤ P.length) (h2 : b.length + 4 * P.length + 4 ≤ 1000000) : BlkOk (blk b P) where
  size := by rw [blk_length]; exact h2
  four := by rw [blk_length]; (walk_at "o")
  cnt := by rw [blk_cnt (by walk_at "o")]; exact h1
  room := by rw [blk_cnt (by walk_at "o"), blk_length]; (walk_at "o")
end
section
variable {ks vs : List (List UInt8)} {n I : Nat} {internal : Bool}
noncomputable def entB (ks vs : List (List UInt8)) (I i : Nat) : List UInt8 :=
  (shB ks I i).toUInt8 :: ((ks.getD i []).length - shB ks I i).toUInt8 :: ((vs.getD i []).length).toUInt8 :: ((ks.getD i []).drop (shB ks I i) ++ vs.getD i [])
theorem shB_le (ks : List (List UInt8)) (I i : Nat) : shB ks I i ≤ (ks.getD i []).length := by
  unfold shB; split
  · (walk_at "o")
  · exact (lcp_le _ _).2
theorem bodyB_succ (i : Nat) : bodyB ks vs I (i + 1) = bodyB ks vs I i ++ entB ks vs I i := by
  show added _ _ _ _ = _
  unfold added entB toB
  have h := shB_le ks I i
  have e : ((((ks.getD i []).length : Int) - (shB ks I i : Int)).toNat) = (ks.getD i []).length - shB ks I i := by walk_at "o"
  simp only [List.map_cons, List.map_nil, Int.toNat_natCast, e, List.append_assoc, List.cons_append, List.nil_append]
theorem entB_length (i : Nat) : (entB ks vs I i).length = 3 + ((ks.getD i []).length - shB ks I i) + (vs.getD i []).length := by
  unfold entB
  simp only [List.length_cons, List.length_append, List.length_drop]
  (walk_at "o")
theorem bodyB_split {i k : Nat} (h : i ≤ k) : ∃ X, bodyB ks vs I k = bodyB ks vs I i ++ X := by
  induction k with
  | zero => exact ⟨[], by rw [show i = 0 by walk_at "o", List.append_nil]⟩
  | succ k ih =>
    rcases Nat.lt_or_ge i (k + 1) with q | q
    · obtain ⟨X, e⟩ := ih (by walk_at "o")
      exact ⟨X ++ entB ks vs I k, by rw [bodyB_succ, e, List.append_assoc]⟩
    · exact ⟨[], by rw [show i = k + 1 by walk_at "o", List.append_nil]⟩
theorem body_at {i k : Nat} (h : i < k) : ∃ X, bodyB ks vs I k = bodyB ks vs I i ++ (entB ks vs I i ++ X) := by
  obtain ⟨X, e⟩ := bodyB_split (ks := ks) (vs := vs) (I := I) (show i + 1 ≤ k by walk_at "o")
  exact ⟨X, by rw [e, bodyB_succ, List.append_assoc]⟩
theorem plcB_facts (hI : 1 ≤ I) : ∀ k, (plcB ks vs I k).length = (k + I - 1) / I ∧ ∀ j, j * I < k → (plcB ks vs I k).getD j 0 = (bodyB ks vs I (j * I)).length
  | 0 => ⟨by show 0 = _; rw [Nat.div_eq_of_lt (by walk_at "o")], fun j h => absurd h (Nat.not_lt_zero _)⟩
  | k + 1 => by
    obtain ⟨h1, h2⟩ := plcB_facts hI k
    have d1 := Nat.div_add_mod k I
    have d2 := Nat.mod_lt k (show 0 < I by walk_at "o")
    have e1 : (k + 1 + I - 1) / I = k / I + 1 := by rw [show k + 1 + I - 1 = k + I by walk_at "o", Nat.add_div_right _ (by walk_at "o")]
    by_cases h : k % I = 0
    · have e : plcB ks vs I (k + 1) = plcB ks vs I k ++ [(bodyB ks vs I k).length] := if_pos h
      have e2 : (k + I - 1) / I = k / I := by
        have : k + I - 1 = I * (k / I) + (I - 1) := by walk_at "o"
        rw [this, Nat.mul_add_div (by walk_at "o"), Nat.div_eq_of_lt (show I - 1 < I by walk_at "o"), Nat.add_zero]
      have el : (plcB ks vs I k).length = k / I := by rw [h1, e2]
      refine ⟨by rw [e, List.length_append, el, e1]; rfl, fun j hj => ?_⟩
      rw [e]
      rcases Nat.lt_or_ge (j * I) k with q | q
      · have hjl : j < (plcB ks vs I k).length := by
          rw [el]
          exact Nat.lt_of_mul_lt_mul_right (a := I) (by rw [Nat.mul_comm (k / I)]; (walk_at "o"))
        rw [List.getD_eq_getElem?_getD, List.getElem?_append_left hjl, ← List.getD_eq_getElem?_getD]
        exact h2 j q
      · have ej : j * I = k := by walk_at "o"
        have ejk : j = k / I := by rw [← ej, Nat.mul_div_cancel _ (by walk_at "o")]
        rw [ej, List.getD_eq_getElem?_getD, List.getElem?_append_right (by rw [el, ejk]; exact Nat.le_refl _), el, ejk, Nat.sub_self]
        rfl
    · have e : plcB ks vs I (k + 1) = plcB ks vs I k := if_neg h
      have e2 : (k + I - 1) / I = k / I + 1 := by
        have : k + I - 1 = I * (k / I + 1) + (k % I - 1) := by rw [Nat.mul_succ]; (walk_at "o")
        rw [this, Nat.mul_add_div (by walk_at "o"), Nat.div_eq_of_lt (show k % I - 1 < I by walk_at "o"), Nat.add_zero]
      refine ⟨by rw [e, h1, e1, e2], fun j hj => ?_⟩
      rw [e]
      refine h2 j ?_
      rcases Nat.lt_or_ge (j * I) k with q | q
      · exact q
      · exfalso
        have ej : j * I = k := by walk_at "o"
        exact h (by rw [← ej]; exact Nat.mul_mod_left ..)
theorem drop_at (A B : List UInt8) (k : Nat) : (A ++ B).drop (A.length + k) = B.drop k := by
  rw [List.drop_append, List.drop_eq_nil_of_le (by walk_at "o"), List.nil_append, Nat.add_sub_cancel_left]
theorem lay_of (B : BuildOk n I internal ks vs) : Lay (outB ks vs I n) n I (fun i => (bodyB ks vs I i).length) (fun i => ks.getD i []) (fun i => vs.getD i []) := by
  obtain ⟨b1, b2, b3, b4, b5, b6, b7, b8, b9, b10, b11⟩ := B
  have ed : outB ks vs I n = blk (bodyB ks vs I n) (plcB ks vs I n) := rfl
  obtain ⟨p1, p2⟩ := plcB_facts (ks := ks) (vs := vs) b5 n
  have hpl := plcB_length ks vs I n
  have hcnt : (plcB ks vs I n).length ≥ 1 := by
    rw [p1]; exact (Nat.le_div_iff_mul_le (by walk_at "o")).mpr (by walk_at "o")
  have hP : (plcB ks vs I n).length < 4294967296 := by walk_at "o"
  have lim : limOf (outB ks vs I n) = (bodyB ks vs I n).length := blk_lim hP
  have cnt : cntOf (outB ks vs I n) = (plcB ks vs I n).length := blk_cnt hP
  have len : (outB ks vs I n).length = (bodyB ks vs I n).length + 4 * (plcB ks vs I n).length + 4 := blk_length
  have le : ∀ {i j}, i ≤ j → (bodyB ks vs I i).length ≤ (bodyB ks vs I j).length := fun h => bodyB_le ks vs I h
  have at_ : ∀ i, i < n → ∃ R, outB ks vs I n = bodyB ks vs I i ++ (entB ks vs I i ++ R) := fun i hi => by
    obtain ⟨X, e⟩ := body_at (ks := ks) (vs := vs) (I := I) hi
    refine ⟨X ++ (tabl (plcB ks vs I n) ++ b32 (plcB ks vs I n).length), ?_⟩
    unfold outB
    rw [e]
    simp only [List.append_assoc]
  have head : ∀ i, i < n → shOf (outB ks vs I n) (bodyB ks vs I i).length = shB ks I i ∧ ((outB ks vs I n).getD ((bodyB ks vs I i).length + 1) 0).toNat = (ks.getD i []).length - shB ks I i ∧
      ((outB ks vs I n).getD ((bodyB ks vs I i).length + 2) 0).toNat = (vs.getD i []).length := fun i hi => by
    obtain ⟨R, e⟩ := at_ i hi
    have hk := (b7 i hi).1
    have hv := b8 i hi
    have hs := shB_le ks I i
    have g0 := getD_append_right' (bodyB ks vs I i) (entB ks vs I i ++ R) 0
    rw [Nat.add_zero] at g0
    unfold shOf
    rw [e, g0, getD_append_right', getD_append_right']
    unfold entB
    simp only [List.cons_append, List.getD_cons_zero, List.getD_cons_succ]
    exact ⟨oct_toNat (by walk_at "o"), oct_toNat (by walk_at "o"), oct_toNat (by walk_at "o")⟩
  have va : ∀ i, i < n → vaOf (outB ks vs I n) (bodyB ks vs I i).length = (bodyB ks vs I i).length + 3 + ((ks.getD i []).length - shB ks I i) := fun i hi => by
    unfold vaOf; rw [(head i hi).2.1]
  have succ : ∀ i, (bodyB ks vs I (i + 1)).length = (bodyB ks vs I i).length + (3 + ((ks.getD i []).length - shB ks I i) + (vs.getD i []).length) := fun i => by
    rw [bodyB_succ, List.length_append, entB_length]
  have en : ∀ i, i < n → enOf (outB ks vs I n) (bodyB ks vs I i).length = (bodyB ks vs I (i + 1)).length := fun i hi => by
    unfold enOf
    rw [(head i hi).2.1, (head i hi).2.2, succ]; (walk_at "o")
  have kat : ∀ i, i < n → keyAt (outB ks vs I n) (bodyB ks vs I i).length = (ks.getD i []).drop (shB ks I i) := fun i hi => by
    obtain ⟨R, e⟩ := at_ i hi
    unfold keyAt
    rw [va i hi, show (bodyB ks vs I i).length + 3 + ((ks.getD i []).length - shB ks I i) - ((bodyB ks vs I i).length + 3) = (ks.getD i []).length - shB ks I i by walk_at "o", e, drop_at]
    unfold entB
    simp only [List.cons_append, List.drop_succ_cons, List.drop_zero, List.append_assoc]
    rw [List.take_append_of_le_length (by rw [List.length_drop]; exact Nat.le_refl _), List.take_of_length_le (by rw [List.length_drop]; exact Nat.le_refl _)]
  refine ⟨blk_ok hcnt (by walk_at "o"), b5, b4, by rw [cnt, p1], fun k hk => ?_, lim.symm, fun i hi => ?_, en, fun i hi h0 => ?_, fun i hi h0 => ?_, fun i hi h0 => ?_, fun i hi h0 => ?_, fun i hi => ?_, fun i hi => (b7 i hi).1⟩
  · have hkl : k < (plcB ks vs I n).length := by
      rw [p1]
      have : k + 1 ≤ (n + I - 1) / I := (Nat.le_div_iff_mul_le (by walk_at "o")).mpr (by rw [Nat.succ_mul]; (walk_at "o"))
      (walk_at "o")
    have hv : (plcB ks vs I n).getD k 0 < 4294967296 := by rw [p2 k hk]; have := le (Nat.le_of_lt hk); (walk_at "o")
    rw [ed, blk_tab hP hkl hv, p2 k hk]
  · have hk := (b7 i hi).1
    have hv := b8 i hi
    have h1 := le (show i + 1 ≤ n by walk_at "o")
    have h2 := succ i
    have h3 := shB_le ks I i
    refine ⟨by rw [len]; (walk_at "o"), ?_, by rw [(head i hi).2.1]; (walk_at "o"), by rw [(head i hi).2.2]; (walk_at "o"), ?_⟩
    · have := (head i hi).1
      unfold shOf at this
      rw [this]; (walk_at "o")
    · rw [(head i hi).2.1, (head i hi).2.2, lim]; (walk_at "o")
  · rw [(head i hi).1]; exact if_pos h0
  · rw [(head i hi).1]
    have : shB ks I i = lcp (ks.getD (i - 1) []) (ks.getD i []) := if_neg h0
    rw [this]; exact (lcp_le _ _).1
  · rw [kat i hi]
    have : shB ks I i = 0 := if_pos h0
    rw [this, List.drop_zero]
  · rw [kat i hi, (head i hi).1]
    have hs : shB ks I i = lcp (ks.getD (i - 1) []) (ks.getD i []) := if_neg h0
    have := (take_lcp (ks.getD (i - 1) []) (ks.getD i []) (shB ks I i) (shB_le ks I i)).mpr (by rw [hs]; exact Nat.le_refl _)
    rw [← this, List.take_append_drop]
  · obtain ⟨R, e⟩ := at_ i hi
    rw [va i hi, succ i, e]
    rw [show (bodyB ks vs I i).length + (3 + ((ks.getD i []).length - shB ks I i) + (vs.getD i []).length) - ((bodyB ks vs I i).length + 3 + ((ks.getD i []).length - shB ks I i)) = (vs.getD i []).length by walk_at "o"]
    rw [show (bodyB ks vs I i).length + 3 + ((ks.getD i []).length - shB ks I i) = (bodyB ks vs I i).length + (((ks.getD i []).length - shB ks I i) + 3) by walk_at "o", drop_at]
    unfold entB
    simp only [List.cons_append, List.drop_succ_cons, List.append_assoc]
    have hd : (ks.getD i []).length - shB ks I i = ((ks.getD i []).drop (shB ks I i)).length := by rw [List.length_drop]
    rw [hd]
    have := drop_at ((ks.getD i []).drop (shB ks I i)) (vs.getD i [] ++ R) 0
    rw [Nat.add_zero] at this
    rw [this, List.drop_zero, List.take_append_of_le_length (Nat.le_refl _), List.take_of_length_le (Nat.le_refl _)]
end
theorem Lay.rises {d : List UInt8} {n I : Nat} {pos : Nat → Nat} {key val : Nat → List UInt8} (L : Lay d n I pos key val) (h0 : pos 0 = 0) : Rise d (cntOf d) where
  first := by
    have := L.tab 0 (by have := L.n0; (walk_at "o"))
    rw [Nat.zero_mul, h0] at this; exact this
  rise := fun k hk => by
    have hI := L.I0
    have h1 := L.cntLt.mp hk
    have h2 := L.cntLt.mp (show k < cntOf d by walk_at "o")
    rw [L.tab k h2, L.tab (k + 1) h1]
    exact ⟨L.strict (by rw [Nat.succ_mul]; (walk_at "o")) (Nat.le_of_lt h1), L.lim h1⟩
theorem set_getD (P : List Nat) (r q k : Nat) (hr : r < P.length) : (P.set r q).getD k 0 = if k = r then q else P.getD k 0 := by
  rw [List.getD_eq_getElem?_getD, List.getElem?_set]
  by_cases h : r = k
  · subst h; simp [hr]
  · rw [if_neg h, if_neg (fun e => h e.symm), ← List.getD_eq_getElem?_getD]
theorem spoilt_eq {b : List UInt8} {P : List Nat} {r : Nat} (hr : r < P.length) (hq : P.getD (nearOf P.length r) 0 < 65536) : spoilt (blk b P) P r = blk b (P.set r (P.getD (nearOf P.length r) 0)) := by
  unfold spoilt
  generalize P.getD (nearOf P.length r) 0 = q at *
  have e0 : (blk b P).length - 4 * (P.length + 1 - r) = (b ++ tabl (P.take r)).length := by
    rw [blk_length, List.length_append, tabl_length, List.length_take]; (walk_at "o")
  rw [e0]
  have e : blk b P = (b ++ tabl (P.take r)) ++ (b32 (P.getD r 0) ++ (tabl (P.drop (r + 1)) ++ b32 P.length)) := by
    unfold blk
    conv => lhs; rw [tabl_split P hr]
    simp only [List.append_assoc]
  have e1 : (blk b P).take (b ++ tabl (P.take r)).length = b ++ tabl (P.take r) := by
    rw [e, List.take_append_of_le_length (Nat.le_refl _), List.take_of_length_le (Nat.le_refl _)]
  have e2 : (blk b P).drop ((b ++ tabl (P.take r)).length + 4) = tabl (P.drop (r + 1)) ++ b32 P.length := by
    rw [e, drop_at, show (4 : Nat) = (b32 (P.getD r 0)).length + 0 from rfl, drop_at, List.drop_zero]
  rw [e1, e2, lnum_b32 hq]
  unfold blk
  have l : (P.set r q).length = P.length := List.length_set
  have e3 : tabl (P.set r q) = tabl (P.take r) ++ (b32 q ++ tabl (P.drop (r + 1))) := by
    rw [tabl_split (P.set r q) (show r < (P.set r q).length by rw [l]; exact hr), set_getD _ _ _ _ hr, if_pos rfl, List.take_set_of_le (Nat.le_refl _), List.drop_set_of_lt (Nat.lt_succ_self _)]
  rw [e3, l]
  simp only [List.append_assoc]
theorem spoilt_bad {b : List UInt8} {P : List Nat} {r : Nat} (hr : r < P.length) (h2 : 2 ≤ P.length) (hb : b.length + 4 * P.length ≤ 60000) (h0 : P.getD 0 0 = 0) (rise : ∀ i j, i < j → j < P.length → P.getD i 0 < P.getD j 0) (lim : ∀ j, j < P.length → P.getD j 0 < b.length) :
    P.getD (nearOf P.length r) 0 < 65536 ∧ BlkOk (spoilt (blk b P) P r) ∧ ∃ r', Bad (spoilt (blk b P) P r) r' := by
  have hn : nearOf P.length r < P.length := by unfold nearOf; split <;> (walk_at "o")
  have hq : P.getD (nearOf P.length r) 0 < 65536 := by have := lim _ hn; (walk_at "o")
  have hql := lim _ hn
  have l : (P.set r (P.getD (nearOf P.length r) 0)).length = P.length := List.length_set
  refine ⟨hq, ?_, ?_⟩
  · rw [spoilt_eq hr hq]
    exact blk_ok (by rw [l]; (walk_at "o")) (by rw [l]; (walk_at "o"))
  · rw [spoilt_eq hr hq]
    generalize hqq : P.getD (nearOf P.length r) 0 = q at *
    have hP : (P.set r q).length < 4294967296 := by rw [l]; (walk_at "o")
    have cnt : cntOf (blk b (P.set r q)) = P.length := by rw [blk_cnt hP, l]
    have lm : limOf (blk b (P.set r q)) = b.length := blk_lim hP
    have tab : ∀ k, k < P.length → tabOf (blk b (P.set r q)) k = if k = r then q else P.getD k 0 := fun k hk => by
      have hv : (P.set r q).getD k 0 < 4294967296 := by
        rw [set_getD _ _ _ _ hr]; split
        · (walk_at "o")
        · have := lim k hk; (walk_at "o")
      rw [blk_tab hP (by rw [l]; exact hk) hv, set_getD _ _ _ _ hr]
    by_cases hlast : r + 1 = P.length
    · have hnear : nearOf P.length r = r - 1 := by unfold nearOf; rw [if_pos hlast]
      rw [hnear] at hqq
      refine ⟨r, by rw [cnt]; exact hr, fun h => ?_, fun k hk => ?_, fun h => by walk_at "o", fun h => ?_⟩
      · rw [tab 0 (by walk_at "o"), if_neg (by walk_at "o")]; exact h0
      · rw [tab k (by walk_at "o"), tab (k + 1) (by walk_at "o"), if_neg (by walk_at "o"), if_neg (by walk_at "o"), lm]
        exact ⟨rise k (k + 1) (by walk_at "o") (by walk_at "o"), lim (k + 1) (by walk_at "o")⟩
      · rw [tab r hr, tab (r - 1) (by walk_at "o"), if_pos rfl, if_neg (by walk_at "o"), ← hqq]; exact Nat.le_refl _
    · have hnear : nearOf P.length r = r + 1 := by unfold nearOf; rw [if_neg hlast]
      rw [hnear] at hqq
      rcases Nat.eq_zero_or_pos r with rfl | hr0
      · refine ⟨0, by rw [cnt]; exact hr, fun h => by walk_at "o", fun k hk => by walk_at "o", fun _ => ?_, fun h => by walk_at "o"⟩
        rw [tab 0 hr, if_pos rfl, ← hqq]
        have h := rise 0 1 (by walk_at "o") (by walk_at "o")
        show P.getD 1 0 ≠ 0
        exact Nat.pos_iff_ne_zero.mp (Nat.lt_of_le_of_lt (Nat.zero_le _) h)
      · refine ⟨r + 1, by rw [cnt]; (walk_at "o"), fun h => ?_, fun k hk => ?_, fun h => by walk_at "o", fun h => ?_⟩
        · rw [tab 0 (by walk_at "o"), if_neg (by walk_at "o")]; exact h0
        · rw [tab k (by walk_at "o"), tab (k + 1) (by walk_at "o"), lm]
          by_cases e : k + 1 = r
          · rw [if_neg (by walk_at "o"), if_pos e, ← hqq]
            exact ⟨rise k (r + 1) (by walk_at "o") (by walk_at "o"), lim (r + 1) (by walk_at "o")⟩
          · rw [if_neg (by walk_at "o"), if_neg e]
            exact ⟨rise k (k + 1) (by walk_at "o") (by walk_at "o"), lim (k + 1) (by walk_at "o")⟩
        · rw [tab (r + 1) (by walk_at "o"), if_neg (by walk_at "o"), Nat.add_sub_cancel, tab r hr, if_pos rfl, ← hqq]; exact Nat.le_refl _
theorem out_bad {ks vs : List (List UInt8)} {n I : Nat} {internal : Bool} (B : BuildOk n I internal ks vs) (h2 : 2 ≤ (plcB ks vs I n).length) (hb : (bodyB ks vs I n).length + 4 * (plcB ks vs I n).length ≤ 60000) {r : Nat} (hr : r < (plcB ks vs I n).length) :
    (plcB ks vs I n).getD (nearOf (plcB ks vs I n).length r) 0 < 65536 ∧ BlkOk (spoilt (outB ks vs I n) (plcB ks vs I n) r) ∧ ∃ r', Bad (spoilt (outB ks vs I n) (plcB ks vs I n) r) r' := by
  have L := lay_of B
  obtain ⟨p1, p2⟩ := plcB_facts (ks := ks) (vs := vs) B.I1 n
  have hI := B.I1
  have lt : ∀ j, j < (plcB ks vs I n).length → j * I < n := fun j hj => by
    rw [p1] at hj
    have := (Nat.le_div_iff_mul_le (by walk_at "o" : 0 < I)).mp (show j + 1 ≤ (n + I - 1) / I by walk_at "o")
    rw [Nat.succ_mul] at this
    (walk_at "o")
  refine spoilt_bad hr h2 hb ?_ (fun i j hij hj => ?_) fun j hj => ?_
  · have := p2 0 (by rw [Nat.zero_mul]; exact B.n1)
    rw [this, Nat.zero_mul]; rfl
  · have hj' := lt j hj
    have hi' := lt i (by walk_at "o")
    rw [p2 i hi', p2 j hj']
    exact L.strict (Nat.mul_lt_mul_of_pos_right hij (by walk_at "o")) (Nat.le_of_lt hj')
  · have hj' := lt j hj
    rw [p2 j hj']
    exact L.strict hj' (Nat.le_refl _)
theorem ord_prefix : ∀ (b r : List UInt8), ord (b ++ r) b ≠ .lt
  | [], [] => by decide
  | [], x :: r => by
    show ord (x :: r) [] ≠ .lt
    rw [show ord (x :: r) [] = .gt from rfl]; decide
  | x :: b, r => by
    rw [List.cons_append, ord_same]; exact ord_prefix b r
theorem ord_take {a b : List UInt8} (h : b = a.take b.length) : ord a b ≠ .lt := by
  have e : a = b ++ a.drop b.length := by
    conv => lhs; rw [← List.take_append_drop b.length a]
    rw [← h]
  conv => lhs; arg 1; rw [e]
  exact ord_prefix b _
theorem lkey_len (v : Nat) : (lkey true v 0).length = (word (v / 2)).length + 8 := by
  rw [show lkey true v 0 = word (v / 2) ++ [(v / 3 % 2).toUInt8, (lseq v 0 % 256).toUInt8, (lseq v 0 / 256).toUInt8, 0, 0, 0, 0, 0] from if_pos rfl, List.length_append]; rfl
theorem lkey_lcp (internal : Bool) {v v' : Nat} (h : v < v') (hv' : v' < 16384) : lcp (lkey internal v 0) (lkey internal v' 0) < (lkey internal v' 0).length := by
  rcases Nat.lt_or_ge (lcp (lkey internal v 0) (lkey internal v' 0)) (lkey internal v' 0).length with q | q
  · exact q
  · exfalso
    have e := (take_lcp (lkey internal v 0) (lkey internal v' 0) _ (Nat.le_refl _)).mpr q
    rw [List.take_of_length_le (Nat.le_refl _)] at e
    have lt := lkey_lt internal (v := v) (v' := v') (h := 0) (h' := 0) (by walk_at "o") hv' (by walk_at "o") (by walk_at "o") (by walk_at "o")
    cases internal with
    | false =>
      rw [kcmp_false] at lt
      have := ord_take e
      cases o : ord (lkey false v 0) (lkey false v' 0)
      · exact this o
      · rw [o] at lt; exact absurd lt.1 (by decide)
      · rw [o] at lt; exact absurd lt.1 (by decide)
    | true =>
      have l1 := lkey_len v
      have l2 := lkey_len v'
      have w1 := word_length (v / 2)
      have w2 := word_length (v' / 2)
      have le := (lcp_le (lkey true v 0) (lkey true v' 0)).1
      rcases Nat.lt_or_ge (lkey true v' 0).length (lkey true v 0).length with r | r
      · -- the longer user's key is not below the shorter one's
        have hne : v / 2 ≠ v' / 2 := fun z => by rw [z] at l1; (walk_at "o")
        have lw := (word_ord (v := v / 2) (v' := v' / 2) (h := 0) (h' := 0) (by walk_at "o") (by walk_at "o") (by walk_at "o") (by walk_at "o") (by walk_at "o")).1
        simp only [List.replicate_zero, List.append_nil] at lw
        refine ord_take ?_ lw
        have e1 := congrArg (List.take (word (v' / 2)).length) e
        rw [List.take_take, Nat.min_eq_left (by walk_at "o")] at e1
        rw [show lkey true v 0 = word (v / 2) ++ [(v / 3 % 2).toUInt8, (lseq v 0 % 256).toUInt8, (lseq v 0 / 256).toUInt8, 0, 0, 0, 0, 0] from if_pos rfl,
          show lkey true v' 0 = word (v' / 2) ++ [(v' / 3 % 2).toUInt8, (lseq v' 0 % 256).toUInt8, (lseq v' 0 / 256).toUInt8, 0, 0, 0, 0, 0] from if_pos rfl,
          List.take_append_of_le_length (Nat.le_refl _), List.take_of_length_le (Nat.le_refl _), List.take_append_of_le_length (by walk_at "o")] at e1
        exact e1
      · have el : (lkey true v' 0).length = (lkey true v 0).length := by walk_at "o"
        rw [el, List.take_of_length_le (Nat.le_refl _)] at e
        rw [e, lkey_eq] at lt
        exact absurd lt.1 (by decide)
noncomputable def numsP (script : List Int) : List Nat := if script = [] then [0] else (script.take 12).map fun x => (x % 999983).toNat
noncomputable def spV (s v0 : Nat) : Nat → Nat
  | 0 => v0
  | j + 1 => spV s v0 j + (1 + (s + j * j) % 3)
noncomputable def spL (s v0 n : Nat) : List Nat := (List.range n).map (spV s v0)
noncomputable def valV (s : Nat) (great : Bool) (j : Nat) : List UInt8 := if great then [] else toB (List.replicate ((s / 3 + j) % 4) (j : Int))
noncomputable def valL (s : Nat) (great : Bool) (n : Nat) : List (List UInt8) := (List.range n).map (valV s great)
noncomputable def keyL (internal : Bool) (sp : List Nat) : List (List UInt8) := sp.map fun v => lkey internal v 0
theorem numsP_len (script : List Int) : 1 ≤ (numsP script).length ∧ (numsP script).length ≤ 12 := by
  unfold numsP
  split
  · simp
  · rename_i h
    rw [List.length_map, List.length_take]
    have : 0 < script.length := List.length_pos_iff.mpr h
    (walk_at "o")
theorem spV_low (s v0 : Nat) : ∀ j, v0 + j ≤ spV s v0 j
  | 0 => Nat.le_refl _
  | j + 1 => by have := spV_low s v0 j; unfold spV; (walk_at "o")
theorem spV_high (s v0 : Nat) : ∀ j, spV s v0 j ≤ v0 + 3 * j
  | 0 => Nat.le_refl _
  | j + 1 => by have := spV_high s v0 j; unfold spV; have := Nat.mod_lt (s + j * j) (show 0 < 3 by walk_at "o"); (walk_at "o")
theorem spV_lt (s v0 : Nat) {i j : Nat} (h : i < j) : spV s v0 i < spV s v0 j := by
  induction j with
  | zero => (walk_at "o")
  | succ j ih =>
    have hs : spV s v0 (j + 1) = spV s v0 j + (1 + (s + j * j) % 3) := rfl
    rcases Nat.lt_or_ge i j with q | q
    · have := ih q; (walk_at "o")
    · rw [show i = j by walk_at "o"]; (walk_at "o")
theorem range_getD (f : Nat → Nat) {n i : Nat} (h : i < n) : ((List.range n).map f).getD i 0 = f i := rangeMap_getD f h
theorem range_getD' (f : Nat → List UInt8) {n i : Nat} (h : i < n) : ((List.range n).map f).getD i [] = f i := by
  simp [List.getD_eq_getElem?_getD, List.getElem?_map, List.getElem?_range h]
theorem keyL_getD {internal : Bool} {sp : List Nat} {i : Nat} (h : i < sp.length) : (keyL internal sp).getD i [] = lkey internal (sp.getD i 0) 0 := by
  unfold keyL
  simp [List.getD_eq_getElem?_getD, List.getElem?_map, List.getElem?_eq_getElem h]
theorem spL_len (s v0 n : Nat) : (spL s v0 n).length = n := by unfold spL; simp
theorem keyL_len (internal : Bool) (sp : List Nat) : (keyL internal sp).length = sp.length := List.length_map ..
theorem spots_of {s v0 n : Nat} (internal : Bool) (h0 : 1 ≤ v0) (h1 : v0 ≤ 3) (hn1 : 1 ≤ n) (hn2 : n ≤ 300) : Spots n internal (spL s v0 n) (fun i => (keyL internal (spL s v0 n)).getD i []) where
  len := spL_len ..
  n1 := hn1
  n2 := by walk_at "o"
  rise := fun i j hij hj => by
    unfold spL
    rw [range_getD _ (by walk_at "o"), range_getD _ hj]
    exact spV_lt s v0 hij
  low := fun i hi => by
    unfold spL
    rw [range_getD _ hi]
    have := spV_low s v0 i; (walk_at "o")
  high := fun i hi => by
    unfold spL
    rw [range_getD _ hi]
    have := spV_high s v0 i; (walk_at "o")
  key := fun i hi => keyL_getD (by rw [spL_len]; exact hi)
theorem valV_len (s : Nat) (great : Bool) (j : Nat) : (valV s great j).length ≤ 3 := by
  unfold valV
  split
  · simp
  · rw [toB_length, List.length_replicate]
    have := Nat.mod_lt (s / 3 + j) (show 0 < 4 by walk_at "o"); (walk_at "o")
theorem entry_small {ks vs : List (List UInt8)} {I m : Nat} (hk : ∀ i, i < m → (ks.getD i []).length ≤ 10) (hv : ∀ i, i < m → (vs.getD i []).length ≤ 3) : ∀ k, k ≤ m → (bodyB ks vs I k).length ≤ 16 * k
  | 0, _ => Nat.le_refl _
  | k + 1, h => by
    have ih := entry_small (I := I) hk hv k (by walk_at "o")
    rw [bodyB_succ, List.length_append, entB_length]
    have h1 := hk k (by walk_at "o")
    have h2 := hv k (by walk_at "o")
    (walk_at "o")
theorem lkey_len10 (internal : Bool) (v : Nat) : (lkey internal v 0).length ≤ 10 := by
  cases internal with
  | true => rw [lkey_len]; have := word_length (v / 2); (walk_at "o")
  | false =>
    rw [show lkey false v 0 = word v ++ List.replicate 0 0 from if_neg Bool.false_ne_true]
    have := word_length v
    simp only [List.replicate_zero, List.append_nil]; (walk_at "o")
theorem build_of {s v0 n I : Nat} (internal great : Bool) (h0 : 1 ≤ v0) (h1 : v0 ≤ 3) (hn1 : 1 ≤ n) (hn2 : n ≤ 300) (hI : 1 ≤ I) (hI2 : I ≤ 16) :
    BuildOk n I internal (keyL internal (spL s v0 n)) (valL s great n) ∧ (bodyB (keyL internal (spL s v0 n)) (valL s great n) I n).length ≤ 4800 := by
  have S := spots_of (s := s) internal h0 h1 hn1 hn2
  have hk : ∀ i, i < n → (keyL internal (spL s v0 n)).getD i [] = lkey internal ((spL s v0 n).getD i 0) 0 := S.key
  have hv : ∀ i, i < n → (valL s great n).getD i [] = valV s great i := fun i hi => range_getD' _ hi
  have hb : (bodyB (keyL internal (spL s v0 n)) (valL s great n) I n).length ≤ 16 * n :=
    entry_small (m := n) (fun i hi => by rw [hk i hi]; exact lkey_len10 _ _) (fun i hi => by rw [hv i hi]; exact valV_len _ _ _) n (Nat.le_refl _)
  refine ⟨⟨by rw [keyL_len, spL_len], by unfold valL; simp, by walk_at "o", hn1, hI, by walk_at "o", fun i hi => ?_, fun i hi => ?_, fun i hi => ?_, fun i hi => ?_, by walk_at "o"⟩, by walk_at "o"⟩
  · rw [hk i hi]; exact lkey_ok internal _ 0 (by walk_at "o")
  · rw [hv i hi]; have := valV_len s great i; (walk_at "o")
  · rw [hk i (by walk_at "o"), hk (i + 1) hi]
    have r := S.rise i (i + 1) (by walk_at "o") hi
    have b := S.high (i + 1) hi
    rw [(lkey_lt internal (v := (spL s v0 n).getD i 0) (v' := (spL s v0 n).getD (i + 1) 0) (h := 0) (h' := 0) (by walk_at "o") (by walk_at "o") (by walk_at "o") (by walk_at "o") (by walk_at "o")).2]
    decide
  · rw [hk i (by walk_at "o"), hk (i + 1) hi]
    have r := S.rise i (i + 1) (by walk_at "o") hi
    have b := S.high (i + 1) hi
    exact lkey_lcp internal r (by walk_at "o")
theorem internal_init_spec {g : Gx} (G : GH g) (x dx : Addr) (led : Led) :
    FnS g 2 482 [.cst (.ref x)] ((x, .inst 520 dx []) :: led) (fun v led' => v = .none ∧ ∃ bo dy, led' = (x, .inst 520 dx [("user_order", .cst (.ref bo))]) :: (bo, .inst 466 dy []) :: led) NoX := by
  refine fnS (kfn482 G) loc482 noc482 clo482 rfl fun c hg hn he => ?_
  subst hg
  have F := kfn482 G
  show WSs c _ _ ⟨[("self", .cst (.ref x))], [], [], _⟩ _
  refine ss_cons ?_
  refine s_setattr ?_ rfl
  refine e_call ?_ rfl rfl
  refine e_gl F he g482_BytesOrder (has_BytesOrder G) ?_
  refine ⟨_, rfl, kkeep466 G, ?_⟩
  refine sw_nil ?_
  refine call_class0 (kmakes466 G) (kinit466 G) fun bo dy => ?_
  refine e_loc (.head _) rfl ?_
  refine p_new (kcls520 G) (kfld520_user_order G) (by walk_at "upd") (by walk_at "len") (by exact new520_0) ?_
  refine ss_nil ?_
  refine ⟨_, ?_, rfl, bo, dy, rfl⟩
  walk_at "sub"
section
variable {c : Fx} {E : Value → Shared → Prop} {σ : St}
theorem sl_given {a : Addr} {us : List Value} {xs : List V} {lo hi : Option Int} {Q : V → St → Prop} (h0 : c.h₀.IsList a us.toArray) (hW : a ∉ c.W) (hO : a ∉ c.outs) (hus : AtAll xs us) (hz : xs.length ≤ 16777216)
    (h : ∀ b, Q (.cst (.ref b)) { σ with led := (b, Ob.list (cutB xs lo hi)) :: σ.led }) : SLO c E (.cst (.ref a)) lo hi σ Q := fun u hu s sl vl vu R hs pl pu => by
  obtain ⟨o, ho, r⟩ := h0
  obtain ⟨o', ho', _, ho2⟩ := R.keep a o ho hW
  have hl : s.heap.IsList a us.toArray := ⟨o, by rw [ho', ho2 hO], r⟩
  rw [show u = .ref a from hu]
  refine ⟨"list", _, hl.typeIs, slot_list_getitem.lookup, wpAny_getItem_list_slice hl hs pl pu .none (by simp) ?_ (by rw [List.size_toArray, atAll_length hus, sizeLine_eq]; exact hz)⟩
  refine ⟨.cst (.ref s.heap.objs.size), _, R.fresh (ob := Ob.list (cutB xs lo hi)) (fun b o e => Heap.get?_push_of_some _ e) ?_ (by simp [Ob.more]) ?_, rfl, h _⟩
  · intro b hb
    rcases List.mem_cons.mp hb with rfl | hb
    · exact size_none _
    · cases hb
  · refine ⟨cutB us lo hi, 0, ?_, ?_⟩
    · rw [Heap.get?_push_size _ rfl, slicePick_plain]
      simp [cutB]
    · unfold cutB
      rw [atAll_length hus]
      exact atAll_take _ (atAll_drop _ hus)
theorem s_forL {x : Str} {px pos : Pos} {iter : Expr} {body : List Stmt} {Q : Fl → St → Prop} (hi : ∀ x, foldedSetIterable iter c.env x = pure x)
    (h : WE c E iter σ (fun v σ₁ => ∃ l xs, v = .cst (.ref l) ∧ (l, Ob.list xs) ∈ σ₁.led ∧ ∃ I : Nat → St → Prop, I 0 σ₁ ∧ (∀ k σ', I k σ' → (l, Ob.list xs) ∈ σ'.led) ∧
      (∀ k σ' it ob, k < xs.length → I k σ' → ∃ σ₂, StoreTo c x (xs.getD k .none) { σ' with led := (it, ob) :: σ'.led } σ₂ ∧ WSs c (fun _ _ => False) body σ₂ (fun fl σ'' => match fl with
        | .next | .cont => ∃ led', Sub σ''.led ((it, ob) :: led') ∧ I (k + 1) { σ'' with led := led' }
        | .brk => Q .next σ''
        | .ret v => Q (.ret v) σ'')) ∧
      (∀ σ', I xs.length σ' → Q .next σ'))) : WS c E (.For (.Name x px) iter body [] pos) σ Q := fun s R => by
  rw [arm_exec_For]
  refine wpS_bind (wpS_standAt (wpS_bind (wpS_mono (h s R) (fun u s₁ zq => ?_) fun _ _ z => z)))
  obtain ⟨v, σ₁, R₁, hv, l, xs, e, hm, I, h0, hP, turn, fin⟩ := zq
  rw [hi]
  refine wpS_bind (wpS_pure (wpS_bind (wpS_standAt ?_)))
  subst e
  rw [show u = .ref l from hv]
  obtain ⟨us, n, hl, hus⟩ := R₁.led _ hm
  refine wpS_bind (wpS_holding (wpS_of (wpAny_pyIter_list (isList_of hl) ?_)))
  have R₂ := R₁.push (t := s₁.toks) (o := { cls := .type "list_iterator", data := .fields #[.ref l, .int 0 0] }) (ob := .lit l 0) rfl ⟨_, Heap.get?_push_size _ rfl, rfl, rfl⟩
  exact for_coreG (σ := σ₁) (itr_list R₁.ok.room.2.2) I hP (fun k σ' hk hI' => turn k σ' _ _ hk hI') fin h0 R₂
end
theorem cutB_takeV (b : List V) (k : Nat) : cutB b none (some (k : Int)) = b.take k := by
  have e : clipAt b.length (k : Int) = min k b.length := by unfold clipAt; rw [if_neg (by walk_at "o")]; (walk_at "o")
  unfold cutB
  simp only [Option.elim]
  rw [e]
  simp only [List.drop_zero, Nat.sub_zero]
  rw [List.take_eq_take_iff]; (walk_at "o")
theorem ysOf_all (f : Nat → V) (n : Nat) : ysOf (fun _ => true) f n = (List.range n).map f := by
  unfold ysOf
  rw [List.filter_eq_self.mpr fun _ _ => rfl]
theorem getD_map_int {l : List Int} {k : Nat} (h : k < l.length) : (l.map V.int).getD k .none = .int (l.getD k 0) := by
  simp [List.getD_eq_getElem?_getD, List.getElem?_eq_getElem h]
theorem nums_list (l : List Int) : (List.range l.length).map (fun k => V.int (l.getD k 0 % 999983)) = natsV (l.map fun x => (x % 999983).toNat) := by
  unfold natsV
  rw [List.map_map]
  refine List.ext_getElem (by simp) fun i h1 h2 => ?_
  have hi : i < l.length := by simpa using h1
  simp only [List.getElem_map, List.getElem_range, Function.comp]
  rw [List.getD_eq_getElem?_getD, List.getElem?_eq_getElem hi, Option.getD_some, Int.toNat_of_nonneg (Int.emod_nonneg _ (by decide))]
theorem scope_comp1 : ScopeOk { kind := .function, names := [(".0", .local), ("x", .local)], isGenerator := false, isCoroutine := false } "x" [] where
  kind := rfl
  nd := nodup_codes [4398142980144, 2097272] (by kernel_rfl) (by decide +kernel)
  dbg := dbg_codes [4398142980144, 2097272] (by kernel_rfl) (by decide +kernel)
  dict := dict_codes [4398142980144, 2097272] (by kernel_rfl) (by decide +kernel)
  loc := .tail _ (.head _)
  nocell := nocell_of (by kernel_rfl)
  free := by kernel_rfl
theorem scope_comp2 : ScopeOk { kind := .function, names := [(".0", .local), ("spot", .local), ("_law_key", .globalImplicit), ("internal", .free)], isGenerator := false, isCoroutine := false } "spot" [("internal" : Str)] where
  kind := rfl
  nd := nodup_codes [4398142980144, 19343873802110886536544372, 374161367732249658175385987738827609501128800075897, 374163151792035682579428996596323779852452767989868] (by kernel_rfl) (by decide +kernel)
  dbg := dbg_codes [4398142980144, 19343873802110886536544372, 374161367732249658175385987738827609501128800075897, 374163151792035682579428996596323779852452767989868] (by kernel_rfl) (by decide +kernel)
  dict := dict_codes [4398142980144, 19343873802110886536544372, 374161367732249658175385987738827609501128800075897, 374163151792035682579428996596323779852452767989868] (by kernel_rfl) (by decide +kernel)
  loc := .tail _ (.head _)
  nocell := nocell_of (by kernel_rfl)
  free := by kernel_rfl
noncomputable def lawL (sc : Addr) (x nums y s large great interval count order spots values v j keys built out places r block walker at_ turns turn z way back : V) : List (Str × V) :=
  [("script", .cst (.ref sc)), ("x", x), ("nums", nums), ("y", y), ("s", s), ("large", large), ("great", great), ("interval", interval), ("count", count), ("order", order), ("spots", spots), ("values", values), ("v", v), ("j", j), ("keys", keys), ("built", built), ("out", out), ("places", places), ("r", r), ("block", block), ("walker", walker), ("at", at_), ("turns", turns), ("turn", turn), ("z", z), ("way", way), ("back", back)]
noncomputable def pX (nums : List Nat) : Nat := nums.getD 0 0
noncomputable def pY (nums : List Nat) : Nat := draw nums 1
noncomputable def pS (nums : List Nat) : Nat := draw nums 2
noncomputable def pL (nums : List Nat) : Bool := decide (5 < nums.length)
noncomputable def pG (nums : List Nat) : Bool := pL nums && decide (pX nums % 2 = 1)
noncomputable def pT (nums : List Nat) : Bool := decide (pX nums / 2 % 2 = 1) && !pG nums
noncomputable def pI (nums : List Nat) : Nat := if pG nums then 1 else 5 + pX nums / 4 % 12
noncomputable def pN (nums : List Nat) : Nat := if pG nums then 256 + pY nums % 45 else if pL nums then 40 + pY nums % 41 else 40 + pY nums % 13
noncomputable def pV (nums : List Nat) : Nat := 1 + pY nums / 45 % 3
theorem pI_bounds (nums : List Nat) : 1 ≤ pI nums ∧ pI nums ≤ 16 := by unfold pI; split <;> (walk_at "o")
theorem pN_bounds (nums : List Nat) : 40 ≤ pN nums ∧ pN nums ≤ 300 := by unfold pN; split <;> (try split) <;> (walk_at "o")
theorem pN_places (nums : List Nat) : 2 ≤ (pN nums + pI nums - 1) / pI nums := by
  have h1 := pI_bounds nums
  have h2 := pN_bounds nums
  exact (Nat.le_div_iff_mul_le (by walk_at "o")).mpr (by walk_at "o")
section
variable {c : Fx} {E : Value → Shared → Prop} {Q : Fl → St → Prop} {sc a1 : Addr} {script : List Int} {us : List Value}
theorem law_seg1 (G : GH c.g) (hn : 7 ≤ c.n) (he : c.env.scope = fd588.scope) (h0 : c.h₀.IsList sc us.toArray) (hW : sc ∉ c.W) (hO : sc ∉ c.outs) (hus : AtAll (script.map V.int) us) (h63 : script.length ≤ 63)
    (k : ∀ nl, WSs c E (body588.drop 2) ⟨lawL sc .unset (.cst (.ref nl)) .unset .unset .unset .unset .unset .unset .unset .unset .unset .unset .unset .unset .unset .unset .unset .unset .unset .unset .unset .unset .unset .unset .unset .unset, [], [("internal", a1)], [(nl, .list (natsV (numsP script))), (a1, .cell .unset)]⟩ Q) :
    WSs c E body588 ⟨lawL sc .unset .unset .unset .unset .unset .unset .unset .unset .unset .unset .unset .unset .unset .unset .unset .unset .unset .unset .unset .unset .unset .unset .unset .unset .unset .unset, [], [("internal", a1)], [(a1, .cell .unset)]⟩ Q := by
  have F := kfn588 G
  unfold lawL
  refine ss_cons ?_
  refine s_comp [] [] scope_comp1 (fun _ h => by cases h) (fun _ h => by cases h) (by rw [swaps_scope he]; kernel_rfl) ?_
  refine e_slice ?_
  refine e_loc (.head _) rfl ?_
  refine e_int ?_
  refine ⟨_, rfl, ?_⟩
  refine sl_given h0 hW hO hus (by rw [List.length_map]; (walk_at "o")) fun b0 => ?_
  rw [show cutB (script.map V.int) none (some 12) = (script.take 12).map V.int from by rw [show (12 : Int) = ((12 : Nat) : Int) from rfl, cutB_takeV, List.map_take]]
  have hl12 : (script.take 12).length ≤ 63 := by rw [List.length_take]; (walk_at "o")
  refine ⟨_, _, _, fun _ => true, fun k => .int ((script.take 12).getD k 0 % 999983), src_list (.head _), by rw [List.length_map]; (walk_at "o"), ?_, fun acc => ?_⟩
  · intro c' hg' hn'
    refine ⟨.inl ⟨rfl, fun _ _ => rfl⟩, fun i hi _ led' hled => ?_⟩
    rw [List.length_map] at hi
    dsimp only
    rw [getD_map_int hi]
    refine e_bin ?_
    refine e_loc (.head _) rfl ?_
    refine e_int ?_
    refine o_mod (by decide) ?_
    exact ⟨rfl, rfl⟩
  · refine ⟨_, .tail _ (.tail _ (.head _ _)), ?_⟩
    rw [ysOf_all, List.length_map, nums_list]
    refine ss_sub (led' := [(acc, .list (natsV ((script.take 12).map fun x => (x % 999983).toNat))), (a1, .cell .unset)]) (.cons (.skip (.refl _))) ?_
    have hnl := natsV_length ((script.take 12).map fun x => (x % 999983).toNat)
    rw [List.length_map] at hnl
    refine ss_cut (fun σ' => ∃ nl, σ' = ⟨lawL sc .unset (.cst (.ref nl)) .unset .unset .unset .unset .unset .unset .unset .unset .unset .unset .unset .unset .unset .unset .unset .unset .unset .unset .unset .unset .unset .unset .unset .unset, [], [("internal", a1)], [(nl, .list (natsV (numsP script))), (a1, .cell .unset)]⟩) ?_ ?_
    · apply s_ifp
      · apply bp_cmp (hm := rfl)
        refine e_call ?_ rfl rfl
        refine e_gl F he g588_len (has_len G) ?_
        refine ⟨_, rfl, keep_builtin, ?_⟩
        refine sw_cons ?_
        refine e_loc (.tail _ (.tail _ (.head _))) rfl ?_
        refine sw_nil ?_
        refine call_lenL (by walk_at "mem") (by walk_at "sc") ?_
        refine e_int ?_
        refine c_eq ?_
        refine t_bool ⟨rfl, rfl⟩
      · intro hp
        have hp := of_decide_eq_true hp
        have hs : script = [] := by
          have : (script.take 12).length = 0 := by walk_at "o"
          rw [List.length_take] at this
          exact List.length_eq_zero_iff.mp (by walk_at "o")
        subst hs
        refine ss_cons ?_
        refine s_assign ?_ rfl
        refine e_list rfl ?_
        refine sw_cons ?_
        refine e_int ?_
        refine sw_nil ⟨Nat.le_of_ble_eq_true rfl, fun _ => ?_⟩
        refine ⟨_, (.tail _ (.tail _ (.head _ _))), ?_⟩
        rename_i nl
        refine ss_sub (led' := [(nl, .list (natsV (numsP []))), (a1, .cell .unset)]) (.cons (.skip (.refl _))) ?_
        refine ss_nil ?_
        exact ⟨rfl, nl, rfl⟩
      · intro hp
        have hp := of_decide_eq_false hp
        have hs : script ≠ [] := fun q => by subst q; exact hp (by rw [hnl]; rfl)
        refine ss_nil ?_
        refine ⟨rfl, acc, ?_⟩
        rw [show numsP script = (script.take 12).map fun x => (x % 999983).toNat from if_neg hs]
        rfl
    · rintro _ ⟨nl, rfl⟩
      exact k nl
end
section
set_option maxHeartbeats 0
section
variable {c : Fx} {E : Value → Shared → Prop} {Q : Fl → St → Prop} {sc a1 nl : Addr} {nums : List Nat}
theorem law_seg2 (G : GH c.g) (hn : 7 ≤ c.n) (he : c.env.scope = fd588.scope) (hl1 : 1 ≤ nums.length) (hl2 : nums.length ≤ 100)
    (k : ∀ order led, OrdIn order (pT nums) led → (nl, Ob.list (natsV nums)) ∈ led → (a1, Ob.cell (.bool (pT nums))) ∈ led →
      WSs c E (body588.drop 14) ⟨lawL sc (.int (pX nums)) (.cst (.ref nl)) (.int (pY nums)) (.int (pS nums)) (.bool (pL nums)) (.bool (pG nums)) (.int (pI nums)) (.int (pN nums)) (.cst (.ref order)) .unset .unset .unset .unset .unset .unset .unset .unset .unset .unset .unset .unset .unset .unset .unset .unset .unset, [], [("internal", a1)], led⟩ Q) :
    WSs c E (body588.drop 2) ⟨lawL sc .unset (.cst (.ref nl)) .unset .unset .unset .unset .unset .unset .unset .unset .unset .unset .unset .unset .unset .unset .unset .unset .unset .unset .unset .unset .unset .unset .unset .unset, [], [("internal", a1)], [(nl, .list (natsV nums)), (a1, .cell .unset)]⟩ Q := by
  have F := kfn588 G
  have hnl := natsV_length nums
  unfold lawL
  refine ss_cons ?_
  refine s_assign ?_ rfl
  refine e_sub ?_
  refine e_loc (.tail _ (.tail _ (.head _))) rfl ?_
  refine e_int ?_
  refine so_list (by walk_at "mem") (by walk_at "sc") (by walk_at "sc") (by walk_at "item") ?_
  refine ⟨_, (.tail _ (.head _ _)), ?_⟩
  rw [show nums.getD (Int.toNat 0) 0 = pX nums from rfl]
  refine ss_cons ?_
  refine s_assign ?_ rfl
  refine e_call ?_ rfl rfl
  refine e_gl F he g588__law_draw (has__law_draw G) ?_
  refine ⟨_, rfl, (kkeep529 G), ?_⟩
  refine sw_cons ?_
  refine e_loc (.tail _ (.tail _ (.head _))) rfl ?_
  refine sw_cons ?_
  refine e_int ?_
  refine sw_nil ?_
  refine FnS.callP (law_draw_spec G (.head _) hl1 hl2 1) (by walk_at "o") ?_
  refine ⟨_, (.tail _ (.tail _ (.tail _ (.head _ _)))), ?_⟩
  refine ss_cons ?_
  refine s_assign ?_ rfl
  refine e_call ?_ rfl rfl
  refine e_gl F he g588__law_draw (has__law_draw G) ?_
  refine ⟨_, rfl, (kkeep529 G), ?_⟩
  refine sw_cons ?_
  refine e_loc (.tail _ (.tail _ (.head _))) rfl ?_
  refine sw_cons ?_
  refine e_int ?_
  refine sw_nil ?_
  refine FnS.callP (law_draw_spec G (.head _) hl1 hl2 2) (by walk_at "o") ?_
  refine ⟨_, (.tail _ (.tail _ (.tail _ (.tail _ (.head _ _))))), ?_⟩
  rw [show draw nums 1 = pY nums from rfl, show draw nums 2 = pS nums from rfl]
  refine ss_cons ?_
  refine s_assign ?_ rfl
  refine e_cmp ?_ rfl
  refine e_call ?_ rfl rfl
  refine e_gl F he g588_len (has_len G) ?_
  refine ⟨_, rfl, keep_builtin, ?_⟩
  refine sw_cons ?_
  refine e_loc (.tail _ (.tail _ (.head _))) rfl ?_
  refine sw_nil ?_
  refine call_lenL (by walk_at "mem") (by walk_at "sc") ?_
  refine e_int ?_
  refine c_gt ?_
  refine ⟨_, (.tail _ (.tail _ (.tail _ (.tail _ (.tail _ (.head _ _)))))), ?_⟩
  rw [show decide ((5 : Int) < ((natsV nums).length : Int)) = pL nums from by unfold pL; rw [hnl]; exact decide_eq_decide.mpr (by walk_at "o")]
  refine ss_cons ?_
  refine s_assign ?_ rfl
  refine vp_use (p := pG nums) ?_ ⟨_, (.tail _ (.tail _ (.tail _ (.tail _ (.tail _ (.tail _ (.head _ _))))))), ?_⟩
  · refine e_and ?_
    refine e_loc (mem_ix 5 rfl) rfl ?_
    refine t_bool ⟨fun h => ?_, fun h => ?_⟩
    · refine e_cmp ?_ rfl
      refine e_bin ?_
      refine e_loc (.tail _ (.head _)) rfl ?_
      refine e_int ?_
      refine o_mod (by decide) ?_
      refine e_int ?_
      refine c_eq ?_
      refine ⟨rfl, congrArg V.bool ?_⟩
      unfold pG
      rw [h, Bool.true_and]
      exact decide_eq_decide.mpr (by walk_at "o")
    · refine ⟨rfl, congrArg V.bool ?_⟩
      unfold pG
      rw [h]; rfl
  refine ss_cons ?_
  refine s_assignT ?_ rfl
  refine vp_use (p := pT nums) ?_ ⟨_, storeTo_cel (kindOf_of F he gc588_internal) (.head _) (by walk_at "upd"), ?_⟩
  · refine e_and ?_
    refine e_cmp ?_ rfl
    refine e_bin ?_
    refine e_bin ?_
    refine e_loc (.tail _ (.head _)) rfl ?_
    refine e_int ?_
    refine o_div (by decide) (by decide) ?_
    refine e_int ?_
    refine o_mod (by decide) ?_
    refine e_int ?_
    refine c_eq ?_
    have e7 : decide ((pX nums : Int) / 2 % 2 = 1) = decide (pX nums / 2 % 2 = 1) := decide_eq_decide.mpr (by walk_at "o")
    rw [e7]
    refine t_bool ⟨fun h => ?_, fun h => ?_⟩
    · refine e_un ?_
      refine e_loc (mem_ix 6 rfl) rfl ?_
      refine u_not ?_
      refine ⟨rfl, congrArg V.bool ?_⟩
      unfold pT
      rw [h, Bool.true_and]
    · refine ⟨rfl, congrArg V.bool ?_⟩
      unfold pT
      rw [h]; rfl
  refine ss_cons ?_
  refine s_assign ?_ rfl
  refine e_bin ?_
  refine e_int ?_
  refine e_bin ?_
  refine e_bin ?_
  refine e_loc (.tail _ (.head _)) rfl ?_
  refine e_int ?_
  refine o_div (by walk_at "sc") (by walk_at "sc") ?_
  refine e_int ?_
  refine o_mod (by walk_at "sc") ?_
  refine o_add ?_
  refine ⟨_, (.tail _ (.tail _ (.tail _ (.tail _ (.tail _ (.tail _ (.tail _ (.head _ _)))))))), ?_⟩
  refine ss_cons ?_
  refine s_assign ?_ rfl
  refine e_bin ?_
  refine e_int ?_
  refine e_bin ?_
  refine e_loc (mem_ix 3 rfl) rfl ?_
  refine e_int ?_
  refine o_mod (by walk_at "sc") ?_
  refine o_add ?_
  refine ⟨_, (.tail _ (.tail _ (.tail _ (.tail _ (.tail _ (.tail _ (.tail _ (.tail _ (.head _ _))))))))), ?_⟩
  refine ss_cut (fun σ' => ∃ i, (i = .int (5 + (pX nums : Int) / 4 % 12)) ∧ σ' = ⟨lawL sc (.int (pX nums)) (.cst (.ref nl)) (.int (pY nums)) (.int (pS nums)) (.bool (pL nums)) (.bool (pG nums)) i (.int (if pL nums then 40 + pY nums % 41 else 40 + pY nums % 13 : Nat)) .unset .unset .unset .unset .unset .unset .unset .unset .unset .unset .unset .unset .unset .unset .unset .unset .unset .unset, [], [("internal", a1)], [(nl, .list (natsV nums)), (a1, .cell (.bool (pT nums)))]⟩) ?_ ?_
  · apply s_ifp
    · apply bp_plain (hp := rfl)
      refine e_loc (mem_ix 5 rfl) rfl ?_
      refine t_bool ⟨rfl, rfl⟩
    · intro hp
      refine ss_cons ?_
      refine s_assign ?_ rfl
      refine e_bin ?_
      refine e_int ?_
      refine e_bin ?_
      refine e_loc (mem_ix 3 rfl) rfl ?_
      refine e_int ?_
      refine o_mod (by walk_at "sc") ?_
      refine o_add ?_
      refine ⟨_, (.tail _ (.tail _ (.tail _ (.tail _ (.tail _ (.tail _ (.tail _ (.tail _ (.head _ _))))))))), ?_⟩
      refine ss_nil ?_
      refine ⟨rfl, _, rfl, ?_⟩
      rw [if_pos hp, show (40 : Int) + (pY nums : Int) % 41 = ((40 + pY nums % 41 : Nat) : Int) by walk_at "o"]
      rfl
    · intro hp
      refine ss_nil ?_
      refine ⟨rfl, _, rfl, ?_⟩
      rw [if_neg (by rw [hp]; exact Bool.false_ne_true), show (40 : Int) + (pY nums : Int) % 13 = ((40 + pY nums % 13 : Nat) : Int) by walk_at "o"]
      rfl
  · rintro _ ⟨_, rfl, rfl⟩
    unfold lawL
    refine ss_cut (fun σ' => σ' = ⟨lawL sc (.int (pX nums)) (.cst (.ref nl)) (.int (pY nums)) (.int (pS nums)) (.bool (pL nums)) (.bool (pG nums)) (.int (pI nums)) (.int (pN nums)) .unset .unset .unset .unset .unset .unset .unset .unset .unset .unset .unset .unset .unset .unset .unset .unset .unset .unset, [], [("internal", a1)], [(nl, .list (natsV nums)), (a1, .cell (.bool (pT nums)))]⟩) ?_ ?_
    · apply s_ifp
      · apply bp_plain (hp := rfl)
        refine e_loc (mem_ix 6 rfl) rfl ?_
        refine t_bool ⟨rfl, rfl⟩
      · intro hp
        refine ss_cons ?_
        refine s_assign ?_ rfl
        refine e_int ?_
        refine ⟨_, (.tail _ (.tail _ (.tail _ (.tail _ (.tail _ (.tail _ (.tail _ (.head _ _)))))))), ?_⟩
        refine ss_cons ?_
        refine s_assign ?_ rfl
        refine e_bin ?_
        refine e_int ?_
        refine e_bin ?_
        refine e_loc (mem_ix 3 rfl) rfl ?_
        refine e_int ?_
        refine o_mod (by walk_at "sc") ?_
        refine o_add ?_
        refine ⟨_, (.tail _ (.tail _ (.tail _ (.tail _ (.tail _ (.tail _ (.tail _ (.tail _ (.head _ _))))))))), ?_⟩
        refine ss_nil ?_
        refine ⟨rfl, ?_⟩
        rw [show pI nums = 1 from if_pos hp, show pN nums = 256 + pY nums % 45 from if_pos hp, show (256 : Int) + (pY nums : Int) % 45 = ((256 + pY nums % 45 : Nat) : Int) by walk_at "o"]
        rfl
      · intro hp
        refine ss_nil ?_
        refine ⟨rfl, ?_⟩
        have h' : ¬ pG nums = true := by rw [hp]; exact Bool.false_ne_true
        rw [show pI nums = 5 + pX nums / 4 % 12 from if_neg h', show pN nums = if pL nums then 40 + pY nums % 41 else 40 + pY nums % 13 from if_neg h', show (5 : Int) + (pX nums : Int) / 4 % 12 = ((5 + pX nums / 4 % 12 : Nat) : Int) by walk_at "o"]
        rfl
    · rintro _ rfl
      unfold lawL
      refine ss_cons ?_
      refine s_assign ?_ rfl
      refine e_call ?_ rfl rfl
      refine e_gl F he g588_BytesOrder (has_BytesOrder G) ?_
      refine ⟨_, rfl, kkeep466 G, ?_⟩
      refine sw_nil ?_
      refine call_class0 (kmakes466 G) (kinit466 G) fun bo dy => ?_
      refine ⟨_, (.tail _ (.tail _ (.tail _ (.tail _ (.tail _ (.tail _ (.tail _ (.tail _ (.tail _ (.head _ _)))))))))), ?_⟩
      refine ss_cut (fun σ' => ∃ order led, OrdIn order (pT nums) led ∧ (nl, Ob.list (natsV nums)) ∈ led ∧ (a1, Ob.cell (.bool (pT nums))) ∈ led ∧ σ' = ⟨lawL sc (.int (pX nums)) (.cst (.ref nl)) (.int (pY nums)) (.int (pS nums)) (.bool (pL nums)) (.bool (pG nums)) (.int (pI nums)) (.int (pN nums)) (.cst (.ref order)) .unset .unset .unset .unset .unset .unset .unset .unset .unset .unset .unset .unset .unset .unset .unset .unset .unset, [], [("internal", a1)], led⟩) ?_ ?_
      · apply s_ifp
        · apply bp_plain (hp := rfl)
          refine e_cel (.head _) (by walk_at "mem") rfl ?_
          exact t_bool ⟨rfl, rfl⟩
        · intro hp
          refine ss_cons ?_
          refine s_assign ?_ rfl
          refine e_call ?_ rfl rfl
          refine e_gl F he g588_InternalOrder (has_InternalOrder G) ?_
          refine ⟨_, rfl, kkeep520 G, ?_⟩
          refine sw_nil ?_
          refine call_class (X := NoX) (Q0 := fun x led' => ∃ dx bo' dy', led' = (x, .inst 520 dx [("user_order", .cst (.ref bo'))]) :: (bo', .inst 466 dy' []) :: (bo, .inst 466 dy []) :: [(nl, .list (natsV nums)), (a1, .cell (.bool (pT nums)))]) (kmakes520 G) (show 2 + 1 ≤ c.n by walk_at "o") (fun x dx => ?_) (fun _ _ hz => ?_) (fun x led' hq => ?_)
          · intro c' σ' s A us hg hR hl hA hr hv
            exact wpS_mono (internal_init_spec G x dx _ c' σ' s A us hg hR hl hA hr hv) (fun u s' zq => by obtain ⟨v, led', R', hv, e, bo', dy', q⟩ := zq; exact ⟨v, led', R', hv, e, dx, bo', dy', q⟩) fun _ _ z => z
          · obtain ⟨_, _, _, _, z⟩ := hz
            exact z.elim
          · obtain ⟨dx, bo', dy', rfl⟩ := hq
            refine ⟨_, (.tail _ (.tail _ (.tail _ (.tail _ (.tail _ (.tail _ (.tail _ (.tail _ (.tail _ (.head _ _)))))))))), ?_⟩
            refine ss_nil ?_
            refine ⟨rfl, x, _, ?_, by walk_at "mem", by walk_at "mem", rfl⟩
            rw [hp]
            unfold OrdIn
            rw [if_pos rfl]
            exact ⟨bo', dx, dy', .head _, .tail _ (.head _)⟩
        · intro hp
          refine ss_nil ?_
          refine ⟨rfl, bo, _, ?_, by walk_at "mem", by walk_at "mem", rfl⟩
          rw [hp]
          unfold OrdIn
          rw [if_neg Bool.false_ne_true]
          exact ⟨dy, .head _⟩
      · rintro _ ⟨order, led, h1, h2, h3, rfl⟩
        exact k order led h1 h2 h3
theorem law_seg3 (G : GH c.g) (hn : 7 ≤ c.n) (he : c.env.scope = fd588.scope) {order : Addr} {led : Led} (hc : (a1, Ob.cell (.bool (pT nums))) ∈ led)
    (k : ∀ jv sl vl kl,
      WSs c E (body588.drop 19) ⟨lawL sc (.int (pX nums)) (.cst (.ref nl)) (.int (pY nums)) (.int (pS nums)) (.bool (pL nums)) (.bool (pG nums)) (.int (pI nums)) (.int (pN nums)) (.cst (.ref order)) (.cst (.ref sl)) (.cst (.ref vl)) (.int (spV (pS nums) (pV nums) (pN nums))) jv (.cst (.ref kl)) .unset .unset .unset .unset .unset .unset .unset .unset .unset .unset .unset .unset, [], [("internal", a1)],
        (kl, .list (bytesV (keyL (pT nums) (spL (pS nums) (pV nums) (pN nums))))) :: (vl, .list (bytesV (valL (pS nums) (pG nums) (pN nums)))) :: (sl, .list (natsV (spL (pS nums) (pV nums) (pN nums)))) :: led⟩ Q) :
    WSs c E (body588.drop 14) ⟨lawL sc (.int (pX nums)) (.cst (.ref nl)) (.int (pY nums)) (.int (pS nums)) (.bool (pL nums)) (.bool (pG nums)) (.int (pI nums)) (.int (pN nums)) (.cst (.ref order)) .unset .unset .unset .unset .unset .unset .unset .unset .unset .unset .unset .unset .unset .unset .unset .unset .unset, [], [("internal", a1)], led⟩ Q := by
  have F := kfn588 G
  have hN := pN_bounds nums
  unfold lawL
  refine ss_cons ?_
  refine s_assign ?_ rfl
  refine e_list rfl ?_
  refine sw_nil ⟨Nat.le_of_ble_eq_true rfl, fun _ => ?_⟩
  refine ⟨_, (.tail _ (.tail _ (.tail _ (.tail _ (.tail _ (.tail _ (.tail _ (.tail _ (.tail _ (.tail _ (.head _ _))))))))))), ?_⟩
  rename_i sl
  refine ss_cons ?_
  refine s_assign ?_ rfl
  refine e_list rfl ?_
  refine sw_nil ⟨Nat.le_of_ble_eq_true rfl, fun _ => ?_⟩
  refine ⟨_, (.tail _ (.tail _ (.tail _ (.tail _ (.tail _ (.tail _ (.tail _ (.tail _ (.tail _ (.tail _ (.tail _ (.head _ _)))))))))))), ?_⟩
  rename_i vl
  refine ss_cons ?_
  refine s_assign ?_ rfl
  refine e_bin ?_
  refine e_int ?_
  refine e_bin ?_
  refine e_bin ?_
  refine e_loc (mem_ix 3 rfl) rfl ?_
  refine e_int ?_
  refine o_div (by walk_at "sc") (by walk_at "sc") ?_
  refine e_int ?_
  refine o_mod (by walk_at "sc") ?_
  refine o_add ?_
  refine ⟨_, (.tail _ (.tail _ (.tail _ (.tail _ (.tail _ (.tail _ (.tail _ (.tail _ (.tail _ (.tail _ (.tail _ (.tail _ (.head _ _))))))))))))), ?_⟩
  rw [show (1 : Int) + (pY nums : Int) / 45 % 3 = ((spV (pS nums) (pV nums) 0 : Nat) : Int) from by show _ = ((pV nums : Nat) : Int); unfold pV; (walk_at "o")]
  refine ss_cut (fun σ' => ∃ jv, σ' = ⟨lawL sc (.int (pX nums)) (.cst (.ref nl)) (.int (pY nums)) (.int (pS nums)) (.bool (pL nums)) (.bool (pG nums)) (.int (pI nums)) (.int (pN nums)) (.cst (.ref order)) (.cst (.ref sl)) (.cst (.ref vl)) (.int (spV (pS nums) (pV nums) (pN nums))) jv .unset .unset .unset .unset .unset .unset .unset .unset .unset .unset .unset .unset .unset, [], [("internal", a1)],
      (vl, .list (bytesV (valL (pS nums) (pG nums) (pN nums)))) :: (sl, .list (natsV (spL (pS nums) (pV nums) (pN nums)))) :: led⟩) ?_ ?_
  · refine FW.monoE (E := fun _ _ => False) ?_ (fun _ _ z => z.elim)
    refine s_forR (fun _ => rfl) (pN nums) (by walk_at "o") (fun i σ' => ∃ jv, σ' = ⟨lawL sc (.int (pX nums)) (.cst (.ref nl)) (.int (pY nums)) (.int (pS nums)) (.bool (pL nums)) (.bool (pG nums)) (.int (pI nums)) (.int (pN nums)) (.cst (.ref order)) (.cst (.ref sl)) (.cst (.ref vl)) (.int (spV (pS nums) (pV nums) i)) jv .unset .unset .unset .unset .unset .unset .unset .unset .unset .unset .unset .unset .unset, [], [("internal", a1)],
      (vl, .list (bytesV (valL (pS nums) (pG nums) i))) :: (sl, .list (natsV (spL (pS nums) (pV nums) i))) :: led⟩) ?_ ?_ ?_
    · refine e_call ?_ rfl rfl
      refine e_gl F he g588_range (has_range G) ?_
      refine ⟨_, rfl, keep_type, ?_⟩
      refine sw_cons ?_
      refine e_loc (mem_ix 8 rfl) rfl ?_
      refine sw_nil ?_
      refine call_range fun r => ?_
      exact ⟨r, _, rfl, rfl, .unset, rfl⟩
    · rintro i _ it ob hi ⟨jv, rfl⟩
      have l1 : (natsV (spL (pS nums) (pV nums) i)).length = i := by rw [natsV_length, spL_len]
      have l2 : (bytesV (valL (pS nums) (pG nums) i)).length = i := by rw [bytesV_length]; unfold valL; simp
      have hsq : i * i ≤ 300 * 300 := Nat.mul_le_mul (by walk_at "o") (by walk_at "o")
      unfold lawL
      refine ⟨_, storeTo_loc (.tail _ (.tail _ (.tail _ (.tail _ (.tail _ (.tail _ (.tail _ (.tail _ (.tail _ (.tail _ (.tail _ (.tail _ (.tail _ (.head _ _)))))))))))))), ?_⟩
      refine ss_cons ?_
      refine s_exprn ?_ rfl
      refine e_meth ?_ rfl rfl (by decide) rfl
      refine e_loc (mem_ix 10 rfl) rfl ?_
      refine mo_append (by walk_at "mem") ⟨keep_builtin, ?_⟩
      refine sw_cons ?_
      refine e_loc (mem_ix 12 rfl) rfl ?_
      refine sw_nil ?_
      refine call_append (by walk_at "upd") (by walk_at "sc") ?_
      refine ⟨trivial, ?_⟩
      refine ss_cons ?_
      refine s_aug (mem_ix 12 rfl) rfl ?_
      refine e_bin ?_
      refine e_int ?_
      refine e_bin ?_
      refine e_bin ?_
      refine e_loc (mem_ix 4 rfl) rfl ?_
      refine e_bin ?_
      refine e_loc (mem_ix 13 rfl) rfl ?_
      refine e_loc (mem_ix 13 rfl) rfl ?_
      refine o_mul (by walk_at "sc") ?_
      refine o_add ?_
      refine e_int ?_
      refine o_mod (by walk_at "sc") ?_
      refine o_add ?_
      refine io_add ?_
      refine ⟨_, (.tail _ (.tail _ (.tail _ (.tail _ (.tail _ (.tail _ (.tail _ (.tail _ (.tail _ (.tail _ (.tail _ (.tail _ (.head _ _))))))))))))), ?_⟩
      have e1 : natsV (spL (pS nums) (pV nums) i) ++ [V.int (spV (pS nums) (pV nums) i : Nat)] = natsV (spL (pS nums) (pV nums) (i + 1)) := by
        unfold spL natsV
        rw [List.range_succ, List.map_append, List.map_append]; rfl
      have e2 : ((spV (pS nums) (pV nums) i : Nat) : Int) + (1 + ((pS nums : Int) + (i : Int) * (i : Int)) % 3) = ((spV (pS nums) (pV nums) (i + 1) : Nat) : Int) := by
        show _ = ((spV (pS nums) (pV nums) i + (1 + (pS nums + i * i) % 3) : Nat) : Int)
        push_cast
        rfl
      rw [e1, e2]
      refine ss_cons ?_
      apply s_ifp
      · apply bp_plain (hp := rfl)
        refine e_loc (mem_ix 6 rfl) rfl ?_
        refine t_bool ⟨rfl, rfl⟩
      · intro hp
        refine ss_cons ?_
        refine s_exprn ?_ rfl
        refine e_meth ?_ rfl rfl (by decide) rfl
        refine e_loc (mem_ix 11 rfl) rfl ?_
        refine mo_append (by walk_at "mem") ⟨keep_builtin, ?_⟩
        refine sw_cons ?_
        refine e_bytes ?_
        refine sw_nil ?_
        refine call_append (by walk_at "upd") (by walk_at "sc") ?_
        refine ⟨trivial, ?_⟩
        refine ss_nil ?_
        refine ss_nil ?_
        refine ⟨(vl, .list (bytesV (valL (pS nums) (pG nums) (i + 1)))) :: (sl, .list (natsV (spL (pS nums) (pV nums) (i + 1)))) :: led, ?_, .int i, rfl⟩
        have e3 : bytesV (valL (pS nums) (pG nums) i) ++ [V.bytes []] = bytesV (valL (pS nums) (pG nums) (i + 1)) := by
          unfold valL bytesV
          rw [List.range_succ, List.map_append, List.map_append]
          rw [show List.map V.bytes (List.map (valV (pS nums) (pG nums)) [i]) = [V.bytes (valV (pS nums) (pG nums) i)] from rfl, show valV (pS nums) (pG nums) i = [] from if_pos hp]
        rw [e3]
        exact .refl _
      · intro hp
        have hlt : i < 256 := by
          have : pN nums ≤ 80 := by
            unfold pN
            rw [if_neg (by rw [hp]; exact Bool.false_ne_true)]
            split <;> (walk_at "o")
          (walk_at "o")
        have hm : (((pS nums : Int) / 3 + (i : Int)) % 4).toNat = (pS nums / 3 + i) % 4 := by walk_at "o"
        have hm4 := Nat.mod_lt (pS nums / 3 + i) (show 0 < 4 by walk_at "o")
        refine ss_cons ?_
        refine s_exprn ?_ rfl
        refine e_meth ?_ rfl rfl (by decide) rfl
        refine e_loc (mem_ix 11 rfl) rfl ?_
        refine mo_append (by walk_at "mem") ⟨keep_builtin, ?_⟩
        refine sw_cons ?_
        refine e_call ?_ rfl rfl
        refine e_gl F he g588_bytes (has_bytes G) ?_
        refine ⟨_, rfl, keep_type, ?_⟩
        refine sw_cons ?_
        refine e_bin ?_
        refine e_list rfl ?_
        refine sw_cons ?_
        refine e_loc (mem_ix 13 rfl) rfl ?_
        refine sw_nil ⟨Nat.le_of_ble_eq_true rfl, fun _ => ?_⟩
        refine e_bin ?_
        refine e_bin ?_
        refine e_bin ?_
        refine e_loc (mem_ix 4 rfl) rfl ?_
        refine e_int ?_
        refine o_div (by decide) (by decide) ?_
        refine e_loc (mem_ix 13 rfl) rfl ?_
        refine o_add ?_
        refine e_int ?_
        refine o_mod (by decide) ?_
        refine o_mulL (.head _) (by walk_at "o") (by rw [hm]; simp only [List.length_cons, List.length_nil]; (walk_at "o")) (by walk_at "o") fun b => ?_
        rw [hm]
        refine sw_nil ?_
        have e4 : (List.replicate ((pS nums / 3 + i) % 4) [V.int (i : Int)]).flatten = intsV (List.replicate ((pS nums / 3 + i) % 4) (i : Int)) := by
          unfold intsV
          rw [List.map_replicate]
          generalize (pS nums / 3 + i) % 4 = m
          induction m with
          | zero => rfl
          | succ m ih => rw [List.replicate_succ, List.flatten_cons, ih, List.replicate_succ]; rfl
        rw [e4]
        refine call_bytesL (.head _) (fun x hx => ?_) (by rw [List.length_replicate]; (walk_at "o")) ?_
        · rw [(List.mem_replicate.mp hx).2]; (walk_at "o")
        refine sw_nil ?_
        refine call_append (by walk_at "upd") (by walk_at "sc") ?_
        refine ⟨trivial, ?_⟩
        refine ss_nil ?_
        refine ss_nil ?_
        refine ⟨(vl, .list (bytesV (valL (pS nums) (pG nums) (i + 1)))) :: (sl, .list (natsV (spL (pS nums) (pV nums) (i + 1)))) :: led, ?_, .int i, rfl⟩
        have e3 : bytesV (valL (pS nums) (pG nums) i) ++ [V.bytes (toB (List.replicate ((pS nums / 3 + i) % 4) (i : Int)))] = bytesV (valL (pS nums) (pG nums) (i + 1)) := by
          unfold valL bytesV
          rw [List.range_succ, List.map_append, List.map_append]
          rw [show List.map V.bytes (List.map (valV (pS nums) (pG nums)) [i]) = [V.bytes (valV (pS nums) (pG nums) i)] from rfl, show valV (pS nums) (pG nums) i = toB (List.replicate ((pS nums / 3 + i) % 4) (i : Int)) from if_neg (by rw [hp]; exact Bool.false_ne_true)]
        rw [e3]
        exact .skip (.skip (.refl _))
    · rintro _ ⟨jv, rfl⟩
      exact ⟨rfl, jv, rfl⟩
  · rintro _ ⟨jv, rfl⟩
    unfold lawL
    have hsn : (spL (pS nums) (pV nums) (pN nums)).length = pN nums := spL_len ..
    have hsl := natsV_length (spL (pS nums) (pV nums) (pN nums))
    have hv0 : 1 ≤ pV nums ∧ pV nums ≤ 3 := by unfold pV; (walk_at "o")
    have S := spots_of (s := pS nums) (pT nums) hv0.1 hv0.2 (n := pN nums) (by walk_at "o") (by walk_at "o")
    refine ss_cons ?_
    refine s_comp [("internal", a1)] [("_law_key", .cst (.ref 543))] scope_comp2 ?_ ?_ (by rw [swaps_scope he]; kernel_rfl) ?_
    · intro p hp
      rcases List.mem_cons.mp hp with rfl | hp
      · exact ⟨.tail _ (.tail _ (.head _)), has__law_key G⟩
      · cases hp
    · intro q hq
      rcases List.mem_cons.mp hq with rfl | hq
      · exact .head _
      · cases hq
    refine e_loc (mem_ix 10 rfl) rfl ?_
    refine ⟨_, _, _, fun _ => true, fun i => .bytes (lkey (pT nums) ((spL (pS nums) (pV nums) (pN nums)).getD i 0) 0), src_list (.tail _ (.head _)), by walk_at "o", ?_, fun acc => ?_⟩
    · intro c' hg' hn'
      refine ⟨.inl ⟨rfl, fun _ _ => rfl⟩, fun i hi _ led' hled => ?_⟩
      dsimp only
      rw [natsV_getD (by walk_at "o")]
      have hhi := S.high i (by walk_at "o")
      refine e_call ?_ rfl rfl
      refine e_glo (.head _) ?_
      refine ⟨_, rfl, by rw [hg']; exact kkeep543 G, ?_⟩
      refine sw_cons ?_
      refine e_loc (.head _) rfl ?_
      refine sw_cons ?_
      refine e_int ?_
      refine sw_cons ?_
      refine e_cel (.head _) (hled _ (.tail _ (.tail _ hc))) rfl ?_
      refine sw_nil ?_
      refine FnS.callP (law_key_spec (g := c'.g) (by rw [hg']; exact G) _ 0 (pT nums) (by walk_at "o") (by walk_at "o") _) (by walk_at "o") ?_
      exact ⟨rfl, rfl⟩
    · refine ⟨_, (.tail _ (.tail _ (.tail _ (.tail _ (.tail _ (.tail _ (.tail _ (.tail _ (.tail _ (.tail _ (.tail _ (.tail _ (.tail _ (.tail _ (.head _ _))))))))))))))), ?_⟩
      have e5 : ysOf (fun _ => true) (fun i => V.bytes (lkey (pT nums) ((spL (pS nums) (pV nums) (pN nums)).getD i 0) 0)) (natsV (spL (pS nums) (pV nums) (pN nums))).length = bytesV (keyL (pT nums) (spL (pS nums) (pV nums) (pN nums))) := by
        rw [ysOf_all, hsl]
        unfold bytesV keyL
        rw [List.map_map]
        refine List.ext_getElem (by simp) fun i h1 h2 => ?_
        have hi : i < (spL (pS nums) (pV nums) (pN nums)).length := by simpa using h1
        simp only [List.getElem_map, List.getElem_range, Function.comp]
        rw [List.getD_eq_getElem?_getD, List.getElem?_eq_getElem hi, Option.getD_some]
      rw [e5]
      exact k jv sl vl acc
end
end
section
set_option maxHeartbeats 0
section
variable {g : Gx} {x dx b bx order rs kl vl : Addr} {d : List UInt8} {n I : Nat} {pos : Nat → Nat} {key val : Nat → List UInt8} {rest : Led} {ks vs : List (List UInt8)}
theorem seek_first_at (G : GH g) (L : Lay d n I pos key val) (h : BlkIn b bx order rs d rest) {at_ : Int} {o : Ob} (hA : At dx b order d n I pos key at_ o) :
    FnS g 5 337 [.cst (.ref x)] ((x, o) :: rest) (fun v led' => v = .none ∧ led' = (x, stOb dx b order d I pos key 0) :: rest) NoX := by
  rcases hA with ⟨i, _, hi, rfl⟩ | ⟨_, t, vf, rfl⟩
  · exact seek_first_spec G L h
  · exact seek_first_spec G L h
theorem seek_last_at (G : GH g) (L : Lay d n I pos key val) (h : BlkIn b bx order rs d rest) {at_ : Int} {o : Ob} (hA : At dx b order d n I pos key at_ o) :
    FnS g 5 344 [.cst (.ref x)] ((x, o) :: rest) (fun v led' => v = .none ∧ led' = (x, stOb dx b order d I pos key (n - 1)) :: rest) NoX := by
  rcases hA with ⟨i, _, hi, rfl⟩ | ⟨_, t, vf, rfl⟩
  · exact seek_last_spec G L h
  · exact seek_last_spec G L h
theorem law_moved_at (G : GH g) (L : Lay d n I pos key val) (h : BlkIn b bx order rs d rest) (K : Kept n key val kl vl ks vs rest) {at_ : Int} {o : Ob} (hA : At dx b order d n I pos key at_ o) {bk : Int} (hb : bk = 0 ∨ bk = 1) :
    FnS g 6 576 [.cst (.ref x), .cst (.ref kl), .cst (.ref vl), .int at_, .int bk] ((x, o) :: rest)
      (fun v led' => ∃ at' o', v = .int at' ∧ At dx b order d n I pos key at' o' ∧ led' = (x, o') :: rest) NoX := by
  by_cases q : at_ < 0 ∨ (n : Int) ≤ at_
  · intro c σ s A us hg R hl hA' hr hv
    exact wpS_mono (law_moved_out G L h K q hA c σ s A us hg R hl hA' hr hv) (fun u s' zq => by obtain ⟨v, led', R', hv', e, e'⟩ := zq; exact ⟨v, led', R', hv', at_, o, e, hA, e'⟩) fun _ _ z => z
  · rcases hA with ⟨i, rfl, hi, rfl⟩ | ⟨ho, _⟩
    · intro c σ s A us hg R hl hA' hr hv
      exact wpS_mono (law_moved_in G L h K hi hb c σ s A us hg R hl hA' hr hv) (fun u s' zq => by obtain ⟨v, led', R', hv', e, o', hA, e'⟩ := zq; exact ⟨v, led', R', hv', _, o', e, hA, e'⟩) fun _ _ z => z
    · exact absurd ho q
end
section
variable {c : Fx} {E : Value → Shared → Prop} {Q : Fl → St → Prop} {sc a1 nl sl vl kl order : Addr} {nums : List Nat} {vv jv : V}
theorem law_seg4 (G : GH c.g) (hn : 7 ≤ c.n) (he : c.env.scope = fd588.scope) (hl1 : 1 ≤ nums.length) (hl2 : nums.length ≤ 100) {led : Led} {ks vs : List (List UInt8)} (hO : OrdIn order (pT nums) led) (hnl : (nl, Ob.list (natsV nums)) ∈ led)
    (hk : (kl, Ob.list (bytesV ks)) ∈ led) (hv : (vl, Ob.list (bytesV vs)) ∈ led) (B : BuildOk (pN nums) (pI nums) (pT nums) ks vs) (hsm : (bodyB ks vs (pI nums) (pN nums)).length ≤ 4800)
    (k : ∀ bu ou pl r b bx dx rs x led', (∀ p ∈ led, p ∈ led') → BlkIn b bx order rs (outB ks vs (pI nums) (pN nums)) led' →
      WSs c E (body588.drop 30) ⟨lawL sc (.int (pX nums)) (.cst (.ref nl)) (.int (pY nums)) (.int (pS nums)) (.bool (pL nums)) (.bool (pG nums)) (.int (pI nums)) (.int (pN nums)) (.cst (.ref order)) (.cst (.ref sl)) (.cst (.ref vl)) vv jv (.cst (.ref kl))
        bu ou pl r (.cst (.ref b)) (.cst (.ref x)) (.int (-1)) (.int (if pL nums then 8 else 4 : Nat)) .unset .unset .unset .unset, [], [("internal", a1)],
        (x, loOb dx b order (outB ks vs (pI nums) (pN nums)) 0 0) :: led'⟩ Q) :
    WSs c E (body588.drop 19) ⟨lawL sc (.int (pX nums)) (.cst (.ref nl)) (.int (pY nums)) (.int (pS nums)) (.bool (pL nums)) (.bool (pG nums)) (.int (pI nums)) (.int (pN nums)) (.cst (.ref order)) (.cst (.ref sl)) (.cst (.ref vl)) vv jv (.cst (.ref kl)) .unset .unset .unset .unset .unset .unset .unset .unset .unset .unset .unset .unset, [], [("internal", a1)], led⟩ Q := by
  have F := kfn588 G
  have hN := pN_bounds nums
  have hI := pI_bounds nums
  have Ly := lay_of B
  obtain ⟨p1, p2⟩ := plcB_facts (ks := ks) (vs := vs) B.I1 (pN nums)
  have hm2 : 2 ≤ (plcB ks vs (pI nums) (pN nums)).length := by rw [p1]; exact pN_places nums
  have hml := plcB_length ks vs (pI nums) (pN nums)
  have hnp := natsV_length (plcB ks vs (pI nums) (pN nums))
  have hol : (outB ks vs (pI nums) (pN nums)).length = (bodyB ks vs (pI nums) (pN nums)).length + 4 * (plcB ks vs (pI nums) (pN nums)).length + 4 := blk_length
  have hcn : cntOf (outB ks vs (pI nums) (pN nums)) = (plcB ks vs (pI nums) (pN nums)).length := blk_cnt (by walk_at "o")
  unfold lawL
  refine ss_cons ?_
  refine s_assign ?_ rfl
  refine e_call ?_ rfl rfl
  refine e_gl F he g588__law_build (has__law_build G) ?_
  refine ⟨_, rfl, kkeep555 G, ?_⟩
  refine sw_cons ?_
  refine e_loc (mem_ix 14 rfl) rfl ?_
  refine sw_cons ?_
  refine e_loc (mem_ix 11 rfl) rfl ?_
  refine sw_cons ?_
  refine e_loc (mem_ix 7 rfl) rfl ?_
  refine sw_cons ?_
  refine e_loc (mem_ix 9 rfl) rfl ?_
  refine sw_nil ?_
  refine FnS.call0 (law_build_spec G B hO hk hv) (by walk_at "o") ?_
  rintro _ _ ⟨t, pl, rfl, rfl⟩
  refine ⟨_, (.tail _ (.tail _ (.tail _ (.tail _ (.tail _ (.tail _ (.tail _ (.tail _ (.tail _ (.tail _ (.tail _ (.tail _ (.tail _ (.tail _ (.tail _ (.head _ _)))))))))))))))), ?_⟩
  generalize hP : plcB ks vs (pI nums) (pN nums) = P at *
  refine ss_cons ?_
  refine s_ifp (p := false) ?_ (fun hp => by cases hp) fun _ => ?_
  · apply bp_cmp (hm := rfl)
    refine e_loc (mem_ix 15 rfl) rfl ?_
    refine e_none ?_
    refine c_isNone (b := false) rfl ?_
    exact t_bool ⟨rfl, rfl⟩
  refine ss_nil ?_
  refine ss_cons ?_
  refine s_unpack2 ?_ rfl rfl
  refine e_loc (mem_ix 15 rfl) rfl ?_
  refine ⟨_, _, _, rfl, by walk_at "mem", rfl, (.cons (.tail _ (.tail _ (.tail _ (.tail _ (.tail _ (.tail _ (.tail _ (.tail _ (.tail _ (.tail _ (.tail _ (.tail _ (.tail _ (.tail _ (.tail _ (.tail _ (.head _ _))))))))))))))))) (.cons (.tail _ (.tail _ (.tail _ (.tail _ (.tail _ (.tail _ (.tail _ (.tail _ (.tail _ (.tail _ (.tail _ (.tail _ (.tail _ (.tail _ (.tail _ (.tail _ (.tail _ (.head _ _)))))))))))))))))) (.nil _))), ?_⟩
  refine ss_sub (led' := (pl, .list (natsV P)) :: led) (.skip (.refl _)) ?_
  refine ss_cons ?_
  refine s_assign ?_ rfl
  refine e_bin ?_
  refine e_call ?_ rfl rfl
  refine e_gl F he g588__law_draw (has__law_draw G) ?_
  refine ⟨_, rfl, (kkeep529 G), ?_⟩
  refine sw_cons ?_
  refine e_loc (.tail _ (.tail _ (.head _))) rfl ?_
  refine sw_cons ?_
  refine e_int ?_
  refine sw_nil ?_
  refine FnS.callP (law_draw_spec G (.tail _ hnl) hl1 hl2 3) (by walk_at "o") ?_
  refine e_call ?_ rfl rfl
  refine e_gl F he g588_len (has_len G) ?_
  refine ⟨_, rfl, keep_builtin, ?_⟩
  refine sw_cons ?_
  refine e_loc (mem_ix 17 rfl) rfl ?_
  refine sw_nil ?_
  refine call_lenL (by walk_at "mem") (by walk_at "sc") ?_
  refine o_mod (by walk_at "sc") ?_
  refine ⟨_, (.tail _ (.tail _ (.tail _ (.tail _ (.tail _ (.tail _ (.tail _ (.tail _ (.tail _ (.tail _ (.tail _ (.tail _ (.tail _ (.tail _ (.tail _ (.tail _ (.tail _ (.tail _ (.head _ _))))))))))))))))))), ?_⟩
  have hr : (draw nums 3 : Int) % ((natsV P).length : Int) = ((draw nums 3 % P.length : Nat) : Int) := by rw [hnp]; rfl
  rw [hr]
  have hrl := Nat.mod_lt (draw nums 3) (show 0 < P.length by walk_at "o")
  generalize draw nums 3 % P.length = r at *
  obtain ⟨q1, q2, r', q3⟩ := out_bad B (by rw [hP]; exact hm2) (by rw [hP]; (walk_at "o")) (r := r) (by rw [hP]; exact hrl)
  rw [hP] at q1 q2 q3
  refine ss_cons ?_
  refine s_ifp (p := !true) ?_ (fun hp => absurd hp (by decide)) fun _ => ?_
  · apply bp_not
    apply bp_plain (hp := rfl)
    refine e_call ?_ rfl rfl
    refine e_gl F he g588__law_refuses (has__law_refuses G) ?_
    refine ⟨_, rfl, kkeep562 G, ?_⟩
    refine sw_cons ?_
    refine e_loc (mem_ix 16 rfl) rfl ?_
    refine sw_cons ?_
    refine e_loc (mem_ix 17 rfl) rfl ?_
    refine sw_cons ?_
    refine e_loc (mem_ix 18 rfl) rfl ?_
    refine sw_cons ?_
    refine e_loc (mem_ix 9 rfl) rfl ?_
    refine sw_nil ?_
    refine FnS.callP (law_refuses_spec G (.head _) hm2 hrl (by walk_at "o") (by walk_at "o") q1 q2 q3) (by walk_at "o") ?_
    exact t_bool ⟨rfl, rfl⟩
  refine ss_nil ?_
  refine ss_cons ?_
  refine s_assign ?_ rfl
  refine e_call ?_ rfl rfl
  refine e_gl F he g588_Block (has_Block G) ?_
  refine ⟨_, rfl, kkeep263 G, ?_⟩
  refine sw_cons ?_
  refine e_loc (mem_ix 16 rfl) rfl ?_
  refine sw_cons ?_
  refine e_loc (mem_ix 9 rfl) rfl ?_
  refine sw_nil ?_
  refine call_class (X := NoX) (Q0 := fun b led' => ∃ bx rs, led' = (rs, .list (natsV (tabs (outB ks vs (pI nums) (pN nums)) (cntOf (outB ks vs (pI nums) (pN nums)))))) :: (b, blkOb bx order rs (outB ks vs (pI nums) (pN nums)) (limOf (outB ks vs (pI nums) (pN nums)))) :: (pl, .list (natsV P)) :: led) (kmakes263 G) (show 2 + 1 ≤ c.n by walk_at "o") (fun b bx => ?_) (fun _ _ hz => ?_) (fun b led' hq => ?_)
  · intro c' σ' s A us hg hR hl hA hr hv
    exact wpS_mono (block_init_spec G _ Ly.ok (Ly.rises rfl) b bx order _ c' σ' s A us hg hR hl hA hr hv) (fun u s' zq => by obtain ⟨v, led', R', hv, e, rs, q⟩ := zq; exact ⟨v, led', R', hv, e, bx, rs, q⟩) fun _ _ z => z
  · obtain ⟨_, _, _, _, z⟩ := hz
    exact z.elim
  obtain ⟨bx, rs, rfl⟩ := hq
  refine ⟨_, (.tail _ (.tail _ (.tail _ (.tail _ (.tail _ (.tail _ (.tail _ (.tail _ (.tail _ (.tail _ (.tail _ (.tail _ (.tail _ (.tail _ (.tail _ (.tail _ (.tail _ (.tail _ (.tail _ (.head _ _)))))))))))))))))))), ?_⟩
  have hB : BlkIn b bx order rs (outB ks vs (pI nums) (pN nums)) ((rs, .list (natsV (tabs (outB ks vs (pI nums) (pN nums)) (cntOf (outB ks vs (pI nums) (pN nums)))))) :: (b, blkOb bx order rs (outB ks vs (pI nums) (pN nums)) (limOf (outB ks vs (pI nums) (pN nums)))) :: (pl, .list (natsV P)) :: led) := ⟨.tail _ (.head _), .head _⟩
  refine ss_cons ?_
  refine s_ifp (p := false) ?_ (fun hp => by cases hp) fun _ => ?_
  · apply bp_cmp (hm := rfl)
    refine e_meth ?_ rfl rfl (by decide) rfl
    refine e_loc (mem_ix 19 rfl) rfl ?_
    refine mo_inst (.tail _ (.head _)) (kcls263 G) (kmeth263_count_restarts G) (by exact nm263_count_restarts) ⟨kkeep239 G, ?_⟩
    refine sw_nil ?_
    refine FnS.callP (count_restarts_spec G Ly.ok hB) (by walk_at "o") ?_
    refine e_call ?_ rfl rfl
    refine e_gl F he g588_len (has_len G) ?_
    refine ⟨_, rfl, keep_builtin, ?_⟩
    refine sw_cons ?_
    refine e_loc (mem_ix 17 rfl) rfl ?_
    refine sw_nil ?_
    refine call_lenL (.tail _ (.tail _ (.head _))) (by walk_at "o") ?_
    refine c_ne ?_
    refine t_bool ⟨rfl, ?_⟩
    rw [hcn, hnp]
    exact decide_eq_false (fun h => h rfl)
  refine ss_nil ?_
  refine ss_cons ?_
  refine s_assign ?_ rfl
  refine e_meth ?_ rfl rfl (by decide) rfl
  refine e_loc (mem_ix 19 rfl) rfl ?_
  refine mo_inst (.tail _ (.head _)) (kcls263 G) (kmeth263_walk G) (by exact nm263_walk) ⟨kkeep246 G, ?_⟩
  refine sw_nil ?_
  refine FnS.call0 (walk_spec G hB) (by walk_at "o") ?_
  rintro _ _ ⟨x, dx, rfl, rfl⟩
  refine ⟨_, (.tail _ (.tail _ (.tail _ (.tail _ (.tail _ (.tail _ (.tail _ (.tail _ (.tail _ (.tail _ (.tail _ (.tail _ (.tail _ (.tail _ (.tail _ (.tail _ (.tail _ (.tail _ (.tail _ (.tail _ (.head _ _))))))))))))))))))))), ?_⟩
  refine ss_cons ?_
  refine s_assign ?_ rfl
  refine e_bin ?_
  refine e_int ?_
  refine e_int ?_
  refine o_sub ?_
  refine ⟨_, (.tail _ (.tail _ (.tail _ (.tail _ (.tail _ (.tail _ (.tail _ (.tail _ (.tail _ (.tail _ (.tail _ (.tail _ (.tail _ (.tail _ (.tail _ (.tail _ (.tail _ (.tail _ (.tail _ (.tail _ (.tail _ (.head _ _)))))))))))))))))))))), ?_⟩
  refine ss_cons ?_
  refine s_assign ?_ rfl
  refine e_int ?_
  refine ⟨_, (.tail _ (.tail _ (.tail _ (.tail _ (.tail _ (.tail _ (.tail _ (.tail _ (.tail _ (.tail _ (.tail _ (.tail _ (.tail _ (.tail _ (.tail _ (.tail _ (.tail _ (.tail _ (.tail _ (.tail _ (.tail _ (.tail _ (.head _ _))))))))))))))))))))))), ?_⟩
  refine ss_cut (fun σ' => σ' = ⟨lawL sc (.int (pX nums)) (.cst (.ref nl)) (.int (pY nums)) (.int (pS nums)) (.bool (pL nums)) (.bool (pG nums)) (.int (pI nums)) (.int (pN nums)) (.cst (.ref order)) (.cst (.ref sl)) (.cst (.ref vl)) vv jv (.cst (.ref kl))
        (.cst (.ref t)) (.bytes (outB ks vs (pI nums) (pN nums))) (.cst (.ref pl)) (.int r) (.cst (.ref b)) (.cst (.ref x)) (.int (-1)) (.int (if pL nums then 8 else 4 : Nat)) .unset .unset .unset .unset, [], [("internal", a1)],
        (x, loOb dx b order (outB ks vs (pI nums) (pN nums)) 0 0) :: (rs, .list (natsV (tabs (outB ks vs (pI nums) (pN nums)) (cntOf (outB ks vs (pI nums) (pN nums)))))) :: (b, blkOb bx order rs (outB ks vs (pI nums) (pN nums)) (limOf (outB ks vs (pI nums) (pN nums)))) :: (pl, .list (natsV P)) :: led⟩) ?_ ?_
  · apply s_ifp
    · apply bp_plain (hp := rfl)
      refine e_loc (mem_ix 5 rfl) rfl ?_
      refine t_bool ⟨rfl, rfl⟩
    · intro hp
      refine ss_cons ?_
      refine s_assign ?_ rfl
      refine e_int ?_
      refine ⟨_, (.tail _ (.tail _ (.tail _ (.tail _ (.tail _ (.tail _ (.tail _ (.tail _ (.tail _ (.tail _ (.tail _ (.tail _ (.tail _ (.tail _ (.tail _ (.tail _ (.tail _ (.tail _ (.tail _ (.tail _ (.tail _ (.tail _ (.head _ _))))))))))))))))))))))), ?_⟩
      refine ss_nil ?_
      refine ⟨rfl, ?_⟩
      rw [if_pos hp]
      rfl
    · intro hp
      refine ss_nil ?_
      refine ⟨rfl, ?_⟩
      rw [if_neg (by rw [hp]; exact Bool.false_ne_true)]
      rfl
  · rintro _ rfl
    exact k _ _ _ _ b bx dx rs x _ (fun p hp => .tail _ (.tail _ (.tail _ hp))) hB
end
end
section
set_option maxHeartbeats 0
section
variable {c : Fx} {E : Value → Shared → Prop} {Q : Fl → St → Prop} {sc a1 nl sl vl kl order : Addr} {nums : List Nat} {vv jv bu ou plv rv : V} {b bx dx rs x : Addr} {d : List UInt8} {pos : Nat → Nat} {key val : Nat → List UInt8} {sp : List Nat} {ks vs : List (List UInt8)} {rest : Led}
end
namespace law_seg5
noncomputable def Stm (c : Fx) (E : Value → Shared → Prop) (Q : Fl → St → Prop) (sc a1 nl sl vl kl order : Addr) (nums : List Nat) (vv jv bu ou plv rv : V) (b bx dx rs x : Addr) (d : List UInt8) (pos : Nat → Nat) (key val : Nat → List UInt8) (sp : List Nat) (ks vs : List (List UInt8)) (rest : Led) (at0 : Int) (o0 : Ob) : Prop := ∀ (G : GH c.g) (hn : 7 ≤ c.n) (he : c.env.scope = fd588.scope) (hl1 : 1 ≤ nums.length) (hl2 : nums.length ≤ 100) (Ly : Lay d (pN nums) (pI nums) pos key val) (S : Spots (pN nums) (pT nums) sp key) (K : Kept (pN nums) key val kl vl ks vs rest) (h : BlkIn b bx order rs d rest) (hO : OrdIn order (pT nums) rest) (hs : (sl, Ob.list (natsV sp)) ∈ rest) (hnl : (nl, Ob.list (natsV nums)) ∈ rest) (hc : (a1, Ob.cell (.bool (pT nums))) ∈ rest) (hA0 : At dx b order d (pN nums) (pI nums) pos key at0 o0) (k : ∀ σ', Q (.ret (.bool true)) σ'), WSs c E (body588.drop 30) ⟨lawL sc (.int (pX nums)) (.cst (.ref nl)) (.int (pY nums)) (.int (pS nums)) (.bool (pL nums)) (.bool (pG nums)) (.int (pI nums)) (.int (pN nums)) (.cst (.ref order)) (.cst (.ref sl)) (.cst (.ref vl)) vv jv (.cst (.ref kl)) bu ou plv rv (.cst (.ref b)) (.cst (.ref x)) (.int at0) (.int (if pL nums then 8 else 4 : Nat)) .unset .unset .unset .unset, [], [("internal", a1)], (x, o0) :: rest⟩ Q
noncomputable def tt0 : Fx × (Value → Shared → Prop) × (Fl → St → Prop) × Addr × Addr × Addr × Addr × Addr × Addr × Addr × (List Nat) × V × V × V × V × V × V × Addr × Addr × Addr × Addr × Addr × (List UInt8) × (Nat → Nat) × (Nat → List UInt8) × (Nat → List UInt8) × (List Nat) × (List (List UInt8)) × (List (List UInt8)) × Led × Int × Ob := (fx0, fun _ _ => True, fun _ _ => True, 0, 0, 0, 0, 0, 0, 0, [], V.none, V.none, V.none, V.none, V.none, V.none, 0, 0, 0, 0, 0, [], fun _ => 0, fun _ => [], fun _ => [], [], [], [], [], 0, Ob.list [])
noncomputable def Stq (q : Fx × (Value → Shared → Prop) × (Fl → St → Prop) × Addr × Addr × Addr × Addr × Addr × Addr × Addr × (List Nat) × V × V × V × V × V × V × Addr × Addr × Addr × Addr × Addr × (List UInt8) × (Nat → Nat) × (Nat → List UInt8) × (Nat → List UInt8) × (List Nat) × (List (List UInt8)) × (List (List UInt8)) × Led × Int × Ob) : Prop := Stm (q.1) (q.2.1) (q.2.2.1) (q.2.2.2.1) (q.2.2.2.2.1) (q.2.2.2.2.2.1) (q.2.2.2.2.2.2.1) (q.2.2.2.2.2.2.2.1) (q.2.2.2.2.2.2.2.2.1) (q.2.2.2.2.2.2.2.2.2.1) (q.2.2.2.2.2.2.2.2.2.2.1) (q.2.2.2.2.2.2.2.2.2.2.2.1) (q.2.2.2.2.2.2.2.2.2.2.2.2.1) (q.2.2.2.2.2.2.2.2.2.2.2.2.2.1) (q.2.2.2.2.2.2.2.2.2.2.2.2.2.2.1) (q.2.2.2.2.2.2.2.2.2.2.2.2.2.2.2.1) (q.2.2.2.2.2.2.2.2.2.2.2.2.2.2.2.2.1) (q.2.2.2.2.2.2.2.2.2.2.2.2.2.2.2.2.2.1) (q.2.2.2.2.2.2.2.2.2.2.2.2.2.2.2.2.2.2.1) (q.2.2.2.2.2.2.2.2.2.2.2.2.2.2.2.2.2.2.2.1) (q.2.2.2.2.2.2.2.2.2.2.2.2.2.2.2.2.2.2.2.2.1) (q.2.2.2.2.2.2.2.2.2.2.2.2.2.2.2.2.2.2.2.2.2.1) (q.2.2.2.2.2.2.2.2.2.2.2.2.2.2.2.2.2.2.2.2.2.2.1) (q.2.2.2.2.2.2.2.2.2.2.2.2.2.2.2.2.2.2.2.2.2.2.2.1) (q.2.2.2.2.2.2.2.2.2.2.2.2.2.2.2.2.2.2.2.2.2.2.2.2.1) (q.2.2.2.2.2.2.2.2.2.2.2.2.2.2.2.2.2.2.2.2.2.2.2.2.2.1) (q.2.2.2.2.2.2.2.2.2.2.2.2.2.2.2.2.2.2.2.2.2.2.2.2.2.2.1) (q.2.2.2.2.2.2.2.2.2.2.2.2.2.2.2.2.2.2.2.2.2.2.2.2.2.2.2.1) (q.2.2.2.2.2.2.2.2.2.2.2.2.2.2.2.2.2.2.2.2.2.2.2.2.2.2.2.2.1) (q.2.2.2.2.2.2.2.2.2.2.2.2.2.2.2.2.2.2.2.2.2.2.2.2.2.2.2.2.2.1) (q.2.2.2.2.2.2.2.2.2.2.2.2.2.2.2.2.2.2.2.2.2.2.2.2.2.2.2.2.2.2.1) (q.2.2.2.2.2.2.2.2.2.2.2.2.2.2.2.2.2.2.2.2.2.2.2.2.2.2.2.2.2.2.2)
noncomputable def pp0 : Fx × (Value → Shared → Prop) × (Fl → St → Prop) × Addr × Addr × Addr × Addr × Addr × Addr × Addr × (List Nat) × V × V × V × V × V × V × Addr × Addr × Addr × Addr × Addr × (List UInt8) × (Nat → Nat) × (Nat → List UInt8) × (Nat → List UInt8) × (List Nat) × (List (List UInt8)) × (List (List UInt8)) × Led × Int × Ob := eps0 tt0 Stq
@[irreducible] noncomputable def c : Fx := pp0.1
@[irreducible] noncomputable def E : Value → Shared → Prop := pp0.2.1
@[irreducible] noncomputable def Q : Fl → St → Prop := pp0.2.2.1
@[irreducible] noncomputable def sc : Addr := pp0.2.2.2.1
@[irreducible] noncomputable def a1 : Addr := pp0.2.2.2.2.1
@[irreducible] noncomputable def nl : Addr := pp0.2.2.2.2.2.1
noncomputable def pp6 : Addr × Addr × Addr × Addr × (List Nat) × V × V × V × V × V × V × Addr × Addr × Addr × Addr × Addr × (List UInt8) × (Nat → Nat) × (Nat → List UInt8) × (Nat → List UInt8) × (List Nat) × (List (List UInt8)) × (List (List UInt8)) × Led × Int × Ob := pp0.2.2.2.2.2.2
@[irreducible] noncomputable def sl : Addr := pp6.1
@[irreducible] noncomputable def vl : Addr := pp6.2.1
@[irreducible] noncomputable def kl : Addr := pp6.2.2.1
@[irreducible] noncomputable def order : Addr := pp6.2.2.2.1
@[irreducible] noncomputable def nums : List Nat := pp6.2.2.2.2.1
@[irreducible] noncomputable def vv : V := pp6.2.2.2.2.2.1
noncomputable def pp12 : V × V × V × V × V × Addr × Addr × Addr × Addr × Addr × (List UInt8) × (Nat → Nat) × (Nat → List UInt8) × (Nat → List UInt8) × (List Nat) × (List (List UInt8)) × (List (List UInt8)) × Led × Int × Ob := pp6.2.2.2.2.2.2
@[irreducible] noncomputable def jv : V := pp12.1
@[irreducible] noncomputable def bu : V := pp12.2.1
@[irreducible] noncomputable def ou : V := pp12.2.2.1
@[irreducible] noncomputable def plv : V := pp12.2.2.2.1
@[irreducible] noncomputable def rv : V := pp12.2.2.2.2.1
@[irreducible] noncomputable def b : Addr := pp12.2.2.2.2.2.1
noncomputable def pp18 : Addr × Addr × Addr × Addr × (List UInt8) × (Nat → Nat) × (Nat → List UInt8) × (Nat → List UInt8) × (List Nat) × (List (List UInt8)) × (List (List UInt8)) × Led × Int × Ob := pp12.2.2.2.2.2.2
@[irreducible] noncomputable def bx : Addr := pp18.1
@[irreducible] noncomputable def dx : Addr := pp18.2.1
@[irreducible] noncomputable def rs : Addr := pp18.2.2.1
@[irreducible] noncomputable def x : Addr := pp18.2.2.2.1
@[irreducible] noncomputable def d : List UInt8 := pp18.2.2.2.2.1
@[irreducible] noncomputable def pos : Nat → Nat := pp18.2.2.2.2.2.1
noncomputable def pp24 : (Nat → List UInt8) × (Nat → List UInt8) × (List Nat) × (List (List UInt8)) × (List (List UInt8)) × Led × Int × Ob := pp18.2.2.2.2.2.2
@[irreducible] noncomputable def key : Nat → List UInt8 := pp24.1
@[irreducible] noncomputable def val : Nat → List UInt8 := pp24.2.1
@[irreducible] noncomputable def sp : List Nat := pp24.2.2.1
@[irreducible] noncomputable def ks : List (List UInt8) := pp24.2.2.2.1
@[irreducible] noncomputable def vs : List (List UInt8) := pp24.2.2.2.2.1
@[irreducible] noncomputable def rest : Led := pp24.2.2.2.2.2.1
noncomputable def pp30 : Int × Ob := pp24.2.2.2.2.2.2
@[irreducible] noncomputable def at0 : Int := pp30.1
@[irreducible] noncomputable def o0 : Ob := pp30.2
theorem zz0 : Stm c E Q sc a1 nl sl vl kl order nums vv jv bu ou plv rv b bx dx rs x d pos key val sp ks vs rest at0 o0 := by
  intro G hn he hl1 hl2 Ly S K h hO hs hnl hc hA0 k
  have F := kfn588 G
  have hN := pN_bounds nums
  unfold lawL
  refine ss_cut (fun σ' => ∃ at_ o tv zv wv bv, At dx b order d (pN nums) (pI nums) pos key at_ o ∧ σ' = ⟨lawL sc (.int (pX nums)) (.cst (.ref nl)) (.int (pY nums)) (.int (pS nums)) (.bool (pL nums)) (.bool (pG nums)) (.int (pI nums)) (.int (pN nums)) (.cst (.ref order)) (.cst (.ref sl)) (.cst (.ref vl)) vv jv (.cst (.ref kl)) bu ou plv rv (.cst (.ref b)) (.cst (.ref x)) (.int at_) (.int (if pL nums then 8 else 4 : Nat)) tv zv wv bv, [], [("internal", a1)], (x, o) :: rest⟩) ?_ ?_
  · refine FW.monoE (E := fun _ _ => False) ?_ (fun _ _ z => z.elim)
    refine s_forR (fun _ => rfl) (if pL nums then 8 else 4) (by split <;> (walk_at "o")) (fun i σ' => ∃ at_ o tv zv wv bv, At dx b order d (pN nums) (pI nums) pos key at_ o ∧ σ' = ⟨lawL sc (.int (pX nums)) (.cst (.ref nl)) (.int (pY nums)) (.int (pS nums)) (.bool (pL nums)) (.bool (pG nums)) (.int (pI nums)) (.int (pN nums)) (.cst (.ref order)) (.cst (.ref sl)) (.cst (.ref vl)) vv jv (.cst (.ref kl)) bu ou plv rv (.cst (.ref b)) (.cst (.ref x)) (.int at_) (.int (if pL nums then 8 else 4 : Nat)) tv zv wv bv, [], [("internal", a1)], (x, o) :: rest⟩) ?_ ?_ ?_
    · refine e_call ?_ rfl rfl
      refine e_gl F he g588_range (has_range G) ?_
      refine ⟨_, rfl, keep_type, ?_⟩
      refine sw_cons ?_
      refine e_loc (mem_ix 22 rfl) rfl ?_
      refine sw_nil ?_
      refine call_range fun r => ?_
      exact ⟨r, _, rfl, rfl, at0, o0, _, _, _, _, hA0, rfl⟩
    · rintro i _ it ob hi ⟨at_, o, tv, zv, wv, bv, hA, rfl⟩
      unfold lawL
      refine ⟨_, storeTo_loc (setV_ix 23 rfl), ?_⟩
      refine ss_sub (led' := (x, o) :: (it, ob) :: rest) (by walk_at "sub") ?_
      have hB : BlkIn b bx order rs d ((it, ob) :: rest) := h.mono fun p hp => .tail _ hp
      have hO' : OrdIn order (pT nums) ((it, ob) :: rest) := hO.mono fun p hp => .tail _ hp
      have hK : Kept (pN nums) key val kl vl ks vs ((it, ob) :: rest) := K.mono fun p hp => .tail _ hp
      refine ss_cons ?_
      refine s_assign ?_ rfl
      refine e_call ?_ rfl rfl
      refine e_gl F he g588__law_draw (has__law_draw G) ?_
      refine ⟨_, rfl, (kkeep529 G), ?_⟩
      refine sw_cons ?_
      refine e_loc (.tail _ (.tail _ (.head _))) rfl ?_
      refine sw_cons ?_
      refine e_bin ?_
      refine e_int ?_
      refine e_loc (mem_ix 23 rfl) rfl ?_
      refine o_add ?_
      refine sw_nil ?_
      rw [show (4 : Int) + (i : Int) = ((4 + i : Nat) : Int) by walk_at "o"]; refine FnS.callP (law_draw_spec G (.tail _ (.tail _ hnl)) hl1 hl2 (4 + i)) (by walk_at "o") ?_
      refine ⟨_, (setV_ix 24 rfl), ?_⟩
      refine ss_cons ?_
      refine s_assign ?_ rfl
      refine e_bin ?_
      refine e_loc (mem_ix 24 rfl) rfl ?_
      refine e_int ?_
      refine o_mod (by walk_at "sc") ?_
      refine ⟨_, (setV_ix 25 rfl), ?_⟩
      generalize draw nums (4 + i) = z
      refine ss_cut (fun σ' => ∃ wy : Int, 0 ≤ wy ∧ σ' = ⟨lawL sc (.int (pX nums)) (.cst (.ref nl)) (.int (pY nums)) (.int (pS nums)) (.bool (pL nums)) (.bool (pG nums)) (.int (pI nums)) (.int (pN nums)) (.cst (.ref order)) (.cst (.ref sl)) (.cst (.ref vl)) vv jv (.cst (.ref kl)) bu ou plv rv (.cst (.ref b)) (.cst (.ref x)) (.int at_) (.int (if pL nums then 8 else 4 : Nat)) (.int i) (.int z) (.int wy) bv, [], [("internal", a1)], (x, o) :: (it, ob) :: rest⟩) ?_ ?_
      · apply s_ifp
        · apply bp_cmp (hm := rfl)
          refine e_loc (mem_ix 23 rfl) rfl ?_
          refine e_int ?_
          refine c_eq ?_
          refine t_bool ⟨rfl, rfl⟩
        · intro _
          refine ss_cons ?_
          refine s_assign ?_ rfl
          refine e_bin ?_
          refine e_loc (mem_ix 24 rfl) rfl ?_
          refine e_int ?_
          refine o_mod (by walk_at "sc") ?_
          refine ⟨_, (setV_ix 25 rfl), ?_⟩
          refine ss_nil ?_
          exact ⟨rfl, _, Int.emod_nonneg _ (by decide), rfl⟩
        · intro _
          refine ss_nil ?_
          exact ⟨rfl, _, Int.emod_nonneg _ (by decide), rfl⟩
      · rintro _ ⟨wy, hwy, rfl⟩
        unfold lawL
        refine ss_cut (fun σ' => ∃ at_ o, At dx b order d (pN nums) (pI nums) pos key at_ o ∧ σ' = ⟨lawL sc (.int (pX nums)) (.cst (.ref nl)) (.int (pY nums)) (.int (pS nums)) (.bool (pL nums)) (.bool (pG nums)) (.int (pI nums)) (.int (pN nums)) (.cst (.ref order)) (.cst (.ref sl)) (.cst (.ref vl)) vv jv (.cst (.ref kl)) bu ou plv rv (.cst (.ref b)) (.cst (.ref x)) (.int at_) (.int (if pL nums then 8 else 4 : Nat)) (.int i) (.int z) (.int wy) bv, [], [("internal", a1)], (x, o) :: (it, ob) :: rest⟩) ?_ ?_
        · apply s_ifp
          · apply bp_cmp (hm := rfl)
            refine e_loc (mem_ix 25 rfl) rfl ?_
            refine e_int ?_
            refine c_eq ?_
            refine t_bool ⟨rfl, rfl⟩
          · intro _
            refine ss_cons ?_
            refine s_exprn ?_ rfl
            refine e_meth ?_ rfl rfl (by decide) rfl
            refine e_loc (mem_ix 20 rfl) rfl ?_
            refine mo_at hA (.head _) G (kmeth375_seek_first G) (by exact nm375_seek_first) ⟨kkeep337 G, ?_⟩
            refine sw_nil ?_
            refine FnS.callP (seek_first_at G Ly hB hA) (by walk_at "o") ?_
            refine ⟨trivial, ?_⟩
            refine ss_cons ?_
            refine s_assign ?_ rfl
            refine e_int ?_
            refine ⟨_, (setV_ix 21 rfl), ?_⟩
            refine ss_nil ?_
            exact ⟨rfl, 0, _, .inl ⟨0, rfl, by walk_at "o", rfl⟩, rfl⟩
          · intro _
            refine ss_cons ?_
            apply s_ifp
            · apply bp_cmp (hm := rfl)
              refine e_loc (mem_ix 25 rfl) rfl ?_
              refine e_int ?_
              refine c_eq ?_
              refine t_bool ⟨rfl, rfl⟩
            · intro _
              refine ss_cons ?_
              refine s_exprn ?_ rfl
              refine e_meth ?_ rfl rfl (by decide) rfl
              refine e_loc (mem_ix 20 rfl) rfl ?_
              refine mo_at hA (.head _) G (kmeth375_seek_last G) (by exact nm375_seek_last) ⟨kkeep344 G, ?_⟩
              refine sw_nil ?_
              refine FnS.callP (seek_last_at G Ly hB hA) (by walk_at "o") ?_
              refine ⟨trivial, ?_⟩
              refine ss_cons ?_
              refine s_assign ?_ rfl
              refine e_bin ?_
              refine e_loc (mem_ix 8 rfl) rfl ?_
              refine e_int ?_
              refine o_sub ?_
              refine ⟨_, (setV_ix 21 rfl), ?_⟩
              refine ss_nil ?_
              refine ss_nil ?_
              exact ⟨rfl, _, _, .inl ⟨pN nums - 1, by walk_at "o", by walk_at "o", rfl⟩, rfl⟩
            · intro _
              refine ss_cons ?_
              refine s_assign ?_ rfl
              refine e_call ?_ rfl rfl
              refine e_gl F he g588__law_sought (has__law_sought G) ?_
              refine ⟨_, rfl, kkeep583 G, ?_⟩
              refine sw_cons ?_
              refine e_loc (mem_ix 20 rfl) rfl ?_
              refine sw_cons ?_
              refine e_loc (mem_ix 10 rfl) rfl ?_
              refine sw_cons ?_
              refine e_loc (mem_ix 24 rfl) rfl ?_
              refine sw_cons ?_
              refine e_loc (mem_ix 25 rfl) rfl ?_
              refine sw_cons ?_
              refine e_loc (mem_ix 21 rfl) rfl ?_
              refine sw_cons ?_
              refine e_cel (.head _) (.tail _ (.tail _ hc)) rfl ?_
              refine sw_nil ?_
              refine FnS.call0 (law_sought_spec G Ly S hB hO' (.tail _ hs) hA z wy hwy) (by walk_at "o") ?_
              rintro _ _ ⟨p, hp, rfl, o', hA', rfl⟩
              refine ⟨_, (setV_ix 21 rfl), ?_⟩
              refine ss_nil ?_
              refine ss_nil ?_
              exact ⟨rfl, p, o', hA', rfl⟩
        · clear hA
          rintro _ ⟨at_, o, hA, rfl⟩
          unfold lawL
          refine ss_cons ?_
          refine s_ifp (p := !true) ?_ (fun hp => absurd hp (by decide)) fun _ => ?_
          · apply bp_not
            apply bp_plain (hp := rfl)
            refine e_call ?_ rfl rfl
            refine e_gl F he g588__law_stands (has__law_stands G) ?_
            refine ⟨_, rfl, kkeep569 G, ?_⟩
            refine sw_cons ?_
            refine e_loc (mem_ix 20 rfl) rfl ?_
            refine sw_cons ?_
            refine e_loc (mem_ix 14 rfl) rfl ?_
            refine sw_cons ?_
            refine e_loc (mem_ix 11 rfl) rfl ?_
            refine sw_cons ?_
            refine e_loc (mem_ix 21 rfl) rfl ?_
            refine sw_nil ?_
            refine FnS.callP (law_stands_at G Ly (hB.mono fun p hp => .tail _ hp) (hK.mono fun p hp => .tail _ hp) hA (.head _)) (by walk_at "o") ?_
            exact t_bool ⟨rfl, rfl⟩
          refine ss_nil ?_
          refine ss_cut (fun σ' => ∃ at_ o bv led0, At dx b order d (pN nums) (pI nums) pos key at_ o ∧ Sub led0 ((it, ob) :: (x, o) :: rest) ∧ σ' = ⟨lawL sc (.int (pX nums)) (.cst (.ref nl)) (.int (pY nums)) (.int (pS nums)) (.bool (pL nums)) (.bool (pG nums)) (.int (pI nums)) (.int (pN nums)) (.cst (.ref order)) (.cst (.ref sl)) (.cst (.ref vl)) vv jv (.cst (.ref kl)) bu ou plv rv (.cst (.ref b)) (.cst (.ref x)) (.int at_) (.int (if pL nums then 8 else 4 : Nat)) (.int i) (.int z) (.int wy) bv, [], [("internal", a1)], led0⟩) ?_ ?_
          · refine s_forL (fun _ => rfl) ?_
            refine e_list rfl ?_
            refine sw_cons ?_
            refine e_bin ?_
            refine e_bin ?_
            refine e_loc (mem_ix 24 rfl) rfl ?_
            refine e_int ?_
            refine o_div (by decide) (by decide) ?_
            refine e_int ?_
            refine o_mod (by decide) ?_
            refine sw_cons ?_
            refine e_bin ?_
            refine e_bin ?_
            refine e_loc (mem_ix 24 rfl) rfl ?_
            refine e_int ?_
            refine o_div (by decide) (by decide) ?_
            refine e_int ?_
            refine o_mod (by decide) ?_
            refine sw_nil ⟨Nat.le_of_ble_eq_true rfl, fun l => ?_⟩
            refine ⟨l, _, rfl, .head _, fun _ σ' => ∃ at_ o bv, At dx b order d (pN nums) (pI nums) pos key at_ o ∧ σ' = ⟨lawL sc (.int (pX nums)) (.cst (.ref nl)) (.int (pY nums)) (.int (pS nums)) (.bool (pL nums)) (.bool (pG nums)) (.int (pI nums)) (.int (pN nums)) (.cst (.ref order)) (.cst (.ref sl)) (.cst (.ref vl)) vv jv (.cst (.ref kl)) bu ou plv rv (.cst (.ref b)) (.cst (.ref x)) (.int at_) (.int (if pL nums then 8 else 4 : Nat)) (.int i) (.int z) (.int wy) bv, [], [("internal", a1)], (l, .list [.int ((z : Int) / 8 % 2), .int ((z : Int) / 16 % 2)]) :: (x, o) :: (it, ob) :: rest⟩, ⟨at_, o, bv, hA, rfl⟩, ?_, ?_, ?_⟩
            · rintro _ _ ⟨at_, o, bv, _, rfl⟩
              exact .head _
            · rintro u _ it2 ob2 hu ⟨at_, o, bv, hA, rfl⟩
              obtain ⟨bk, hbk, ebk⟩ : ∃ bk : Int, (bk = 0 ∨ bk = 1) ∧ ([V.int ((z : Int) / 8 % 2), V.int ((z : Int) / 16 % 2)] : List V).getD u .none = .int bk := by
                have hu' : u < 2 := hu
                rcases (show u = 0 ∨ u = 1 by walk_at "o") with rfl | rfl
                · exact ⟨_, by walk_at "o", rfl⟩
                · exact ⟨_, by walk_at "o", rfl⟩
              rw [ebk]
              unfold lawL
              refine ⟨_, storeTo_loc (setV_ix 26 rfl), ?_⟩
              refine ss_sub (led' := (x, o) :: (l, .list [.int ((z : Int) / 8 % 2), .int ((z : Int) / 16 % 2)]) :: (it2, ob2) :: (it, ob) :: rest) (by walk_at "sub") ?_
              refine ss_cons ?_
              refine s_assign ?_ rfl
              refine e_call ?_ rfl rfl
              refine e_gl F he g588__law_moved (has__law_moved G) ?_
              refine ⟨_, rfl, kkeep576 G, ?_⟩
              refine sw_cons ?_
              refine e_loc (mem_ix 20 rfl) rfl ?_
              refine sw_cons ?_
              refine e_loc (mem_ix 14 rfl) rfl ?_
              refine sw_cons ?_
              refine e_loc (mem_ix 11 rfl) rfl ?_
              refine sw_cons ?_
              refine e_loc (mem_ix 21 rfl) rfl ?_
              refine sw_cons ?_
              refine e_loc (mem_ix 26 rfl) rfl ?_
              refine sw_nil ?_
              refine FnS.call0 (law_moved_at G Ly (hB.mono fun p hp => .tail _ (.tail _ hp)) (hK.mono fun p hp => .tail _ (.tail _ hp)) hA hbk) (by walk_at "o") ?_
              rintro _ _ ⟨at', o', rfl, hA', rfl⟩
              refine ⟨_, (setV_ix 21 rfl), ?_⟩
              refine ss_cons ?_
              refine s_ifp (p := false) ?_ (fun hp => by cases hp) fun _ => ?_
              · apply bp_cmp (hm := rfl)
                refine e_loc (mem_ix 21 rfl) rfl ?_
                refine e_none ?_
                refine c_isNone (b := false) rfl ?_
                exact t_bool ⟨rfl, rfl⟩
              refine ss_nil ?_
              refine ss_nil ?_
              exact ⟨(l, .list [.int ((z : Int) / 8 % 2), .int ((z : Int) / 16 % 2)]) :: (x, o') :: (it, ob) :: rest, by walk_at "sub", at', o', _, hA', rfl⟩
            · rintro _ ⟨at_, o, bv, hA, rfl⟩
              exact ⟨rfl, at_, o, bv, _, hA, .skip (by walk_at "sub"), rfl⟩
          · clear hA
            rintro _ ⟨at_, o, bv, led0, hA, hsub, rfl⟩
            refine ss_nil ?_
            exact ⟨_, hsub, at_, o, _, _, _, _, hA, rfl⟩
    · rintro _ ⟨at_, o, tv, zv, wv, bv, hA, rfl⟩
      exact ⟨rfl, at_, o, tv, zv, wv, bv, hA, rfl⟩
  · rintro _ ⟨at_, o, tv, zv, wv, bv, hA, rfl⟩
    unfold lawL
    refine ss_cut (fun _ => True) ?_ ?_
    · refine FW.monoE (E := fun _ _ => False) ?_ (fun _ _ z => z.elim)
      refine s_forR (fun _ => rfl) (pN nums / 10) (by walk_at "o") (fun i σ' => ∃ at_ o tv, At dx b order d (pN nums) (pI nums) pos key at_ o ∧ σ' = ⟨lawL sc (.int (pX nums)) (.cst (.ref nl)) (.int (pY nums)) (.int (pS nums)) (.bool (pL nums)) (.bool (pG nums)) (.int (pI nums)) (.int (pN nums)) (.cst (.ref order)) (.cst (.ref sl)) (.cst (.ref vl)) vv jv (.cst (.ref kl)) bu ou plv rv (.cst (.ref b)) (.cst (.ref x)) (.int at_) (.int (if pL nums then 8 else 4 : Nat)) tv zv wv bv, [], [("internal", a1)], (x, o) :: rest⟩) ?_ ?_ ?_
      · refine e_call ?_ rfl rfl
        refine e_gl F he g588_range (has_range G) ?_
        refine ⟨_, rfl, keep_type, ?_⟩
        refine sw_cons ?_
        refine e_bin ?_
        refine e_loc (mem_ix 8 rfl) rfl ?_
        refine e_int ?_
        refine o_div (by decide) (by decide) ?_
        rw [show (pN nums : Int) / 10 = ((pN nums / 10 : Nat) : Int) by walk_at "o"]
        refine sw_nil ?_
        refine call_range fun r => ?_
        exact ⟨r, _, rfl, rfl, at_, o, _, hA, rfl⟩
      · rintro i _ it ob hi ⟨at_, o, tv, hA, rfl⟩
        unfold lawL
        refine ⟨_, storeTo_loc (setV_ix 23 rfl), ?_⟩
        refine ss_sub (led' := (x, o) :: (it, ob) :: rest) (by walk_at "sub") ?_
        refine ss_cons ?_
        refine s_assign ?_ rfl
        refine e_call ?_ rfl rfl
        refine e_gl F he g588__law_moved (has__law_moved G) ?_
        refine ⟨_, rfl, kkeep576 G, ?_⟩
        refine sw_cons ?_
        refine e_loc (mem_ix 20 rfl) rfl ?_
        refine sw_cons ?_
        refine e_loc (mem_ix 14 rfl) rfl ?_
        refine sw_cons ?_
        refine e_loc (mem_ix 11 rfl) rfl ?_
        refine sw_cons ?_
        refine e_loc (mem_ix 21 rfl) rfl ?_
        refine sw_cons ?_
        refine e_int ?_
        refine sw_nil ?_
        refine FnS.call0 (law_moved_at G Ly (h.mono fun p hp => .tail _ hp) (K.mono fun p hp => .tail _ hp) hA (.inl rfl)) (by walk_at "o") ?_
        rintro _ _ ⟨at', o', rfl, hA', rfl⟩
        refine ⟨_, (setV_ix 21 rfl), ?_⟩
        refine ss_cons ?_
        refine s_ifp (p := false) ?_ (fun hp => by cases hp) fun _ => ?_
        · apply bp_cmp (hm := rfl)
          refine e_loc (mem_ix 21 rfl) rfl ?_
          refine e_none ?_
          refine c_isNone (b := false) rfl ?_
          exact t_bool ⟨rfl, rfl⟩
        refine ss_nil ?_
        refine ss_nil ?_
        exact ⟨(x, o') :: rest, by walk_at "sub", at', o', _, hA', rfl⟩
      · rintro _ _
        exact ⟨rfl, trivial⟩
    · rintro σ' _
      refine ss_cons ?_
      refine s_ret ?_
      refine e_bool ?_
      exact k _
end law_seg5
theorem law_seg5 {c : Fx} {E : Value → Shared → Prop} {Q : Fl → St → Prop} {sc a1 nl sl vl kl order : Addr} {nums : List Nat} {vv jv bu ou plv rv : V} {b bx dx rs x : Addr} {d : List UInt8} {pos : Nat → Nat} {key val : Nat → List UInt8} {sp : List Nat} {ks vs : List (List UInt8)} {rest : Led} {at0 : Int} {o0 : Ob} : law_seg5.Stm c E Q sc a1 nl sl vl kl order nums vv jv bu ou plv rv b bx dx rs x d pos key val sp ks vs rest at0 o0 :=
  eps_at law_seg5.Stq law_seg5.tt0 (by with_unfolding_all exact law_seg5.zz0) (c, E, Q, sc, a1, nl, sl, vl, kl, order, nums, vv, jv, bu, ou, plv, rv, b, bx, dx, rs, x, d, pos, key, val, sp, ks, vs, rest, at0, o0)
section
variable {c : Fx} {E : Value → Shared → Prop} {Q : Fl → St → Prop} {sc a1 nl sl vl kl order : Addr} {nums : List Nat} {vv jv bu ou plv rv : V} {b bx dx rs x : Addr} {d : List UInt8} {pos : Nat → Nat} {key val : Nat → List UInt8} {sp : List Nat} {ks vs : List (List UInt8)} {rest : Led}
end
end
section
set_option maxHeartbeats 0
theorem cellsFrom588 : (cellsFrom 0 fd588.scope.names []).map Prod.fst = [("internal" : Str)] := by kernel_rfl
theorem bind588 (a : Value) : bindL (fun x => fd588.scope.names.lookup x) [(("script" : Str), a)] (fun _ => none) "script" = some a := by kernel_rfl
theorem loc588_nd : ([("script" : Str), ("x" : Str), ("nums" : Str), ("y" : Str), ("s" : Str), ("large" : Str), ("great" : Str), ("interval" : Str), ("count" : Str), ("order" : Str), ("spots" : Str), ("values" : Str), ("v" : Str), ("j" : Str), ("keys" : Str), ("built" : Str), ("out" : Str), ("places" : Str), ("r" : Str), ("block" : Str), ("walker" : Str), ("at" : Str), ("turns" : Str), ("turn" : Str), ("z" : Str), ("way" : Str), ("back" : Str)] : List Str).Nodup :=
  nodup_codes [85075256686358395299775606335035408500, 2097272, 19343827685272692491026547, 2097273, 2097267, 40566908232014302516060826370149, 40566811518105530613178763837556, 374163151792035682579428996596323779887637140078700, 40566734146825405231169789755508, 40566966260610441281315088105586, 40567043631844449921887102828659, 85075378380777331528230302440358936691, 2097270, 2097258, 19343800015086213207687283, 40566714804067631576547560783988, 9223860220262875252, 85075134992074858550980218237852057715, 2097266, 40566714803984621254604127993963, 85075418945596538831571106354396397682, 4398249934964, 40567062974703680629332298956915, 19343883025504913630167150, 2097274, 9223895404593021049, 19343717004720289282523243] (by kernel_rfl) (by decide +kernel)
theorem atAll_ints {us : List Value} {ns : List Int} (h : IntsAre us ns) : AtAll (ns.map V.int) us := by
  induction h with
  | nil => trivial
  | cons i t r ih => exact ⟨⟨t, rfl⟩, ih⟩
theorem law_spec {g : Gx} (G : GH g) {s : Shared} {A : Around} {sc : Addr} {us : List Value} {script : List Int} (C : Caller g s [] []) (hA : A.frames = some []) (room : Room 8 A) (hl : s.heap.IsList sc us.toArray) (hu : AtAll (script.map V.int) us) (h63 : script.length ≤ 63) :
    wpS (model g.prog g.w) A (call (.ref 588) [.ref sc]) (fun u s' => u = .bool true ∧ (∀ b o, s.heap.get? b = some o → s'.heap.get? b = some o) ∧ s'.gens = s.gens ∧ s'.os = s.os) (fun _ _ => False) s := by
  have key := callC (g := g) (n := 7) (A := A) (s := s) (led := []) (frs := []) (ys := [.cst (.ref sc)]) (vs := [.ref sc]) (X := NoX) (Q := fun v _ => v = .bool true)
    (loc0 := lawL sc .unset .unset .unset .unset .unset .unset .unset .unset .unset .unset .unset .unset .unset .unset .unset .unset .unset .unset .unset .unset .unset .unset .unset .unset .unset .unset) (cv := [.unset]) (kfn588 G) clo588 rfl ?_ loc588_nd cellsFrom588 rfl ?_ ?_ C hA room ⟨rfl, trivial⟩ ?_
  · refine wpS_mono key (fun u s' zq => ?_) fun x s' ⟨env, σ', C, e, t, hx, R, q⟩ => q.elim
    obtain ⟨env, σ', v, R, hv, e⟩ := zq
    subst e
    refine ⟨hv, fun b o e => ?_, R.same.1, R.same.2.2⟩
    obtain ⟨o', e', _, q⟩ := R.keep b o e (fun h => by cases h)
    rw [e', q (fun h => by cases h)]
  · unfold lawL
    simp only [List.forall_mem_cons]
    exact ⟨(.head _), (.tail _ (.head _)), (.tail _ (.tail _ (.head _))), (mem_ix 3 rfl), (mem_ix 4 rfl), (mem_ix 5 rfl), (mem_ix 6 rfl), (mem_ix 8 rfl), (mem_ix 9 rfl), (mem_ix 10 rfl), (mem_ix 11 rfl), (mem_ix 12 rfl), (mem_ix 13 rfl), (mem_ix 14 rfl), (mem_ix 15 rfl), (mem_ix 16 rfl), (mem_ix 17 rfl), (mem_ix 18 rfl), (mem_ix 19 rfl), (mem_ix 20 rfl), (mem_ix 21 rfl), (mem_ix 22 rfl), (mem_ix 23 rfl), (mem_ix 24 rfl), (mem_ix 25 rfl), (mem_ix 26 rfl), (mem_ix 27 rfl), fun _ h => by cases h⟩
  · intro x hx
    rcases List.mem_cons.mp hx with rfl | hx
    · exact .inl (.head _)
    · cases hx
  · intro us' hus'
    obtain ⟨u1, rfl, h1⟩ := at1 hus'
    ·
      refine ⟨?_, ?_⟩
      · unfold lawL
        simp only [List.forall_mem_cons]
        refine ⟨?_, trivial, trivial, trivial, trivial, trivial, trivial, trivial, trivial, trivial, trivial, trivial, trivial, trivial, trivial, trivial, trivial, trivial, trivial, trivial, trivial, trivial, trivial, trivial, trivial, trivial, trivial, fun _ h => by cases h⟩
        rw [show bindL _ (List.zip _ _) _ _ = _ from bind588 u1]
        exact V.at_loc h1
      · intro p hp
        rcases List.mem_cons.mp (show p ∈ [(("internal" : Str), V.unset)] from hp) with rfl | hp
        · trivial
        · cases hp
  · intro c hg hn hown he ⟨hh, hW, ho⟩ as has
    obtain ⟨a1, as, rfl, z1⟩ := lenC has
    cases len0 z1
    ·
      subst hg
      have n1 := numsP_len script
      have hN := pN_bounds (numsP script)
      have hI := pI_bounds (numsP script)
      have hV : 1 ≤ pV (numsP script) ∧ pV (numsP script) ≤ 3 := by unfold pV; (walk_at "o")
      obtain ⟨B, hsm⟩ := build_of (s := pS (numsP script)) (pT (numsP script)) (pG (numsP script)) hV.1 hV.2 (n := pN (numsP script)) (by walk_at "o") hN.2 hI.1 hI.2
      have S := spots_of (s := pS (numsP script)) (pT (numsP script)) hV.1 hV.2 (n := pN (numsP script)) (by walk_at "o") hN.2
      refine law_seg1 G (by walk_at "o") he (hh ▸ hl) (by rw [hW]; intro h; cases h) (by unfold Fx.outs; rw [ho]; intro h; cases h) hu h63 fun nl => ?_
      refine law_seg2 G (by walk_at "o") he n1.1 (by walk_at "o") fun order led hO hnl hc => ?_
      refine law_seg3 G (by walk_at "o") he hc fun jv sl vl kl => ?_
      have up : ∀ p ∈ led, p ∈ (kl, Ob.list (bytesV (keyL (pT (numsP script)) (spL (pS (numsP script)) (pV (numsP script)) (pN (numsP script)))))) :: (vl, .list (bytesV (valL (pS (numsP script)) (pG (numsP script)) (pN (numsP script))))) :: (sl, .list (natsV (spL (pS (numsP script)) (pV (numsP script)) (pN (numsP script))))) :: led :=
        fun p hp => .tail _ (.tail _ (.tail _ hp))
      refine law_seg4 G (by walk_at "o") he n1.1 (by walk_at "o") (hO.mono up) (up _ hnl) (.head _) (.tail _ (.head _)) B hsm fun bu ou pl r b bx dx rs x led' hled hB => ?_
      exact law_seg5 G (by walk_at "o") he n1.1 (by walk_at "o") (lay_of B) S
        ⟨hled _ (.head _), hled _ (.tail _ (.head _)), B.kn, B.vn, B.n0, fun _ _ => rfl, fun _ _ => rfl⟩ hB ((hO.mono up).mono hled) (hled _ (.tail _ (.tail _ (.head _)))) (hled _ (up _ hnl)) (hled _ (up _ hc))
        (.inr ⟨.inl (by decide), 0, 0, rfl⟩) fun σ' => rfl
end
end Mine
section
open PySem PySem.W PyProof.Rows
set_option maxHeartbeats 0
theorem Mine.post_ok (e : WCtx) (h : e.res = some (.bool true)) : WTm.holds PySem.Challenge.rw_xm0851_01.row.toRowW.records (.eq .res (.lit (.bool true))) e = true := by
  unfold WTm.holds
  simp [WTm.value, h, same_self]
theorem Mine.post_ok2 (args : List WData) : PySem.Challenge.rw_xm0851_01.row.toRowW.claim.post args (.bool true) args = true := by
  show (WShape.has PySem.Challenge.rw_xm0851_01.row.toRowW.records (.bool true) .bool && WTm.holds PySem.Challenge.rw_xm0851_01.row.toRowW.records (.eq .res (.lit (.bool true))) _) = true
  rw [Mine.post_ok _ rfl, Bool.and_true]
  first | rfl | decide +kernel | simp [WShape.has]
theorem Mine.walk_end {w : World} {s₀ s₁ : Shared} {mg mb : Str → Option Value} (G : Ground Hk.k.view_1 [] PySem.Challenge.rw_xm0851_01.row.toRowW.records (XL Hk.k.view_1 []) w s₀ mg mb s₁.heap) (Y : (Hk.k.heap_1 w.params).In s₁.heap)
    {a sc : Addr} (hmg : mg "law" = some (.ref a)) (hg : s₁.gens = #[]) {script : List Int} {us : List Value} (hL : s₁.heap.IsList sc us.toArray) (hI : IntsAre us script) (h63 : ¬ (63 : Int) < script.length) :
    Mine.wpS (model PySem.Challenge.rw_xm0851_01.row.toRowW.prog w) callerA (call (.ref a) [.ref sc])
      (fun v s' => GoodWG PySem.Challenge.rw_xm0851_01.row.toRowW.claim (classAt s₀.heap) (ExcName.means s₀.heap) [ofPy (PyData.list (List.map PyData.int script))] s₁ (.ok (.ret v)) s')
      (fun e s' => GoodWG PySem.Challenge.rw_xm0851_01.row.toRowW.claim (classAt s₀.heap) (ExcName.means s₀.heap) [ofPy (PyData.list (List.map PyData.int script))] s₁ (.error e) s') s₁ := by
  have GH' : Mine.GH ⟨PySem.Challenge.rw_xm0851_01.row.toRowW.prog, w, Mine.HK w.params, mg, mb, s₁.heap⟩ := ⟨⟨Y, G.T.g, G.T.b, G.T.nolimit⟩, rfl, G.T.builtins⟩
  have ha : a = 588 := by
    rcases Mine.has_law GH' with ⟨u, hu, hv⟩ | ⟨hn, _⟩
    · rw [show mg "law" = some u from hu] at hmg
      rw [show u = .ref 588 from hv] at hmg
      injection hmg with hmg
      injection hmg with hmg
      exact hmg.symm
    · rw [show mg "law" = none from hn] at hmg; cases hmg
  subst ha
  have C : Mine.Caller ⟨PySem.Challenge.rw_xm0851_01.row.toRowW.prog, w, Mine.HK w.params, mg, mb, s₁.heap⟩ s₁ [] [] :=
    ⟨GH'.ok, fun b o e => e, fun a h => by (cases h), fun p h => by (cases h), List.nodup_nil, trivial, fun e h => by (cases h)⟩
  refine Mine.wpS_mono (Mine.law_spec GH' C rfl ?_ hL (Mine.atAll_ints hI) (by walk_at "o")) (fun v s' ⟨e, ho, hgen, hos⟩ => ?_) fun _ _ z => z.elim
  · exact ⟨by decide +kernel, by decide +kernel, rfl⟩
  · subst e
    exact (show GoodW PySem.Challenge.rw_xm0851_01.row.toRowW.claim (classAt s₀.heap) (ExcName.means s₀.heap) [ofPy (PyData.list (List.map PyData.int script))] s₁ (.ok (.ret (.bool true))) s' from
      ⟨.inl ⟨.bool true, .bool true, [], rfl, fun _ => rfl, .bool true, Mine.post_ok2 _, fun _ => ⟨.nil, fun _ h => by (cases h)⟩⟩, ho, hos, hgen.trans hg⟩).toG
namespace Hd
noncomputable def hd.tw823513081909486421 := ()
noncomputable def hd.tw16232497609736633604 := ()
noncomputable def hd.tw6504533045066855743 := ()
noncomputable def hd.tw8535086595177263419 := ()
noncomputable def hd.tw1774183101682153945 := ()
noncomputable def hd.tw9189717351615107625 := ()
noncomputable def hd.tw5414116384097769609 := ()
noncomputable def hd.tw9765104121505607228 := ()
noncomputable def hd.tw9575473301783581485 := ()
noncomputable def hd.tw8179090334580109139 := ()
noncomputable def hd.tw510451762858448136 := ()
noncomputable def hd.tw11352778729590953925 := ()
noncomputable def hd.tw14558512876692799435 := ()
noncomputable def hd.tw4308184824640241887 := ()
noncomputable def hd.tw1360666835025019770 := ()
noncomputable def hd.tw4020952930661925255 := ()
noncomputable def hd.tw17792015834006087957 := ()
noncomputable def hd.tw12291352410122401099 := ()
noncomputable def hd.tw11226104140544260595 := ()
noncomputable def hd.tw16041908242876069112 := ()
noncomputable def hd.tw7075743834535057018 := ()
noncomputable def hd.tw10418395903803399069 := ()
noncomputable def hd.tw16936371613809675863 := ()
noncomputable def hd.tw11492166859309251755 := ()
noncomputable def hd.tw13524626907385414351 := ()
noncomputable def hd.tw5328238175632201481 := ()
noncomputable def hd.tw15801664580604822097 := ()
noncomputable def hd.tw4756455813139576604 := ()
noncomputable def hd.tw17759029868152229586 := ()
noncomputable def hd.tw9506058454940914179 := ()
noncomputable def hd.tw1203634123015074900 := ()
noncomputable def hd.tw16406067874746174198 := ()
noncomputable def hd.tw6333331984629642436 := ()
noncomputable def hd.tw6082224834660410994 := ()
noncomputable def hd.tw6412119622746992571 := ()
noncomputable def hd.tw11621049525009446129 := ()
noncomputable def hd.tw14197641277553532398 := ()
noncomputable def hd.tw17828845983698333193 := ()
noncomputable def hd.tw935737591182008679 := ()
noncomputable def hd.tw8382048990013087878 := ()
noncomputable def hd.tw7248681258223981760 := ()
noncomputable def hd.tw1818802041490900462 := ()
noncomputable def hd.tw1854326239818853348 := ()
noncomputable def hd.tw15795438847718929292 := ()
noncomputable def hd.tw17952724700773006857 := ()
noncomputable def hd.tw442777761101689627 := ()
noncomputable def hd.tw14096979356464319087 := ()
noncomputable def hd.tw5150236816237884909 := ()
noncomputable def hd.tw11062411625211900881 := ()
noncomputable def hd.tw5404947343633607782 := ()
noncomputable def hd.tw6931623409273894191 := ()
noncomputable def hd.tw9929145552658081879 := ()
noncomputable def hd.tw5208295705523992142 := ()
noncomputable def hd.tw14537144725927854550 := ()
noncomputable def hd.tw11393975331853042940 := ()
noncomputable def hd.tw3780650455607802576 := ()
noncomputable def hd.tw1243606756541153009 := ()
noncomputable def hd.tw4877147140840753352 := ()
noncomputable def hd.tw1760647931246773358 := ()
noncomputable def hd.tw7266186352787490861 := ()
noncomputable def hd.tw13100112048199917949 := ()
noncomputable def hd.tw7772147256915992855 := ()
noncomputable def hd.tw5872680920787219963 := ()
noncomputable def hd.tw18340048532496131810 := ()
noncomputable def hd.tw6414202604335662383 := ()
noncomputable def hd.tw13914484184164768857 := ()
noncomputable def hd.tw7741428611064181530 := ()
noncomputable def hd.tw9265596371295315869 := ()
noncomputable def hd.tw9876365933868187142 := ()
noncomputable def hd.tw18437679131941211677 := ()
noncomputable def hd.tw10463326930058671411 := ()
noncomputable def hd.tw18372693397451030822 := ()
noncomputable def hd.tw8694088886183577733 := ()
noncomputable def hd.tw14346869495240331064 := ()
noncomputable def hd.tw16297247093491590616 := ()
noncomputable def hd.tw10666073618603741555 := ()
noncomputable def hd.tw8485256305698623439 := ()
noncomputable def hd.tw4192217831257043789 := ()
noncomputable def hd.tw14952389025138056524 := ()
noncomputable def hd.tw14388236905415745794 := ()
noncomputable def hd.tw5975095123857149444 := ()
noncomputable def hd.tw8122807420308409093 := ()
noncomputable def hd.tw807486897782335931 := ()
noncomputable def hd.tw11700502504334391795 := ()
noncomputable def hd.tw16547742870726353569 := ()
noncomputable def hd.tw3402246638540182023 := ()
noncomputable def hd.tw16259639829561010974 := ()
noncomputable def hd.tw7112078420990930698 := ()
noncomputable def hd.tw10609284002462154096 := ()
noncomputable def hd.tw3631043993588478132 := ()
noncomputable def hd.tw16471477650163349031 := ()
noncomputable def hd.tw17545000078697471646 := ()
noncomputable def hd.tw10582545081785893896 := ()
noncomputable def hd.tw16469444955654792364 := ()
noncomputable def hd.tw12087737328253624925 := ()
noncomputable def hd.tw5804925091008584141 := ()
noncomputable def hd.tw2826489575883463042 := ()
noncomputable def hd.tw6706739703591823873 := ()
noncomputable def hd.tw14682151490332443691 := ()
noncomputable def hd.tw3538869203785284037 := ()
noncomputable def hd.tw12425340027849785607 := ()
noncomputable def hd.tw6691452740722805825 := ()
noncomputable def hd.tw8999003572960541040 := ()
noncomputable def hd.tw3968728826619564204 := ()
noncomputable def hd.tw11263596449637798686 := ()
noncomputable def hd.tw12799826205650885264 := ()
noncomputable def hd.tw10723147172473680515 := ()
noncomputable def hd.tw15094070798560389033 := ()
noncomputable def hd.tw5274069081536219186 := ()
noncomputable def hd.tw8837343617770666299 := ()
noncomputable def hd.tw1175858222200602832 := ()
noncomputable def hd.tw3286109067793674684 := ()
noncomputable def hd.tw8501258895886839384 := ()
noncomputable def hd.tw2878687447405218907 := ()
noncomputable def hd.tw17055754547634228991 := ()
noncomputable def hd.tw17837196469330679866 := ()
noncomputable def hd.tw3640281339660184121 := ()
noncomputable def hd.tw10412825376959370143 := ()
noncomputable def hd.tw10777930495261308357 := ()
noncomputable def hd.tw2561814719775279665 := ()
noncomputable def hd.tw2353556112669939269 := ()
noncomputable def hd.tw17420052379065507438 := ()
noncomputable def hd.tw11012006944772638440 := ()
noncomputable def hd.tw13495598288525023664 := ()
noncomputable def hd.tw13752933660659893090 := ()
noncomputable def hd.tw9174722470933347240 := ()
noncomputable def hd.tw9436133458505859439 := ()
noncomputable def hd.tw7700669390281999334 := ()
noncomputable def hd.tw14617540175656839637 := ()
noncomputable def hd.tw9892328481607966262 := ()
noncomputable def hd.tw5932886872516474147 := ()
noncomputable def hd.tw10648156060543409652 := ()
noncomputable def hd.tw10475594194138188640 := ()
noncomputable def hd.tw15598585395608749507 := ()
noncomputable def hd.tw17316758395684760904 := ()
noncomputable def hd.tw16631942611880481163 := ()
noncomputable def hd.tw5330334305458497656 := ()
noncomputable def hd.tw13200463824774360573 := ()
noncomputable def hd.tw2661947948306891509 := ()
noncomputable def hd.tw6940127352064053443 := ()
noncomputable def hd.tw4688990809445849599 := ()
noncomputable def hd.tw3462997721234071298 := ()
noncomputable def hd.tw7208997663231262708 := ()
noncomputable def hd.tw12570939080854030218 := ()
noncomputable def hd.tw9858022356162094566 := ()
noncomputable def hd.tw5243048054894302107 := ()
noncomputable def hd.tw13694517008981819781 := ()
noncomputable def hd.tw3916904779836560462 := ()
noncomputable def hd.tw2575591069704127879 := ()
noncomputable def hd.tw4930074922351874604 := ()
noncomputable def hd.tw11592174996152846409 := ()
noncomputable def hd.tw4280063087928847404 := ()
noncomputable def hd.tw8694032862795795592 := ()
noncomputable def hd.tw3924052736251274287 := ()
noncomputable def hd.tw11458553753305837026 := ()
noncomputable def hd.tw17090565035723431420 := ()
noncomputable def hd.tw13520535486862125611 := ()
noncomputable def hd.tw12291893659773873323 := ()
noncomputable def hd.tw15791989611915961939 := ()
noncomputable def hd.tw8980891704857702304 := ()
noncomputable def hd.tw122090151988384338 := ()
noncomputable def hd.tw6144035324887875699 := ()
noncomputable def hd.tw15867345691892841201 := ()
noncomputable def hd.tw5613452724183159909 := ()
noncomputable def hd.tw10384893802359138165 := ()
noncomputable def hd.tw9401903062635444470 := ()
noncomputable def hd.tw12878517572146570986 := ()
noncomputable def hd.tw10851950251769972836 := ()
noncomputable def hd.tw8246742934334547276 := ()
noncomputable def hd.tw10663856246312061407 := ()
noncomputable def hd.tw18292798076393326880 := ()
noncomputable def hd.tw8563932176530917271 := ()
noncomputable def hd.tw3553768530625860944 := ()
noncomputable def hd.tw11199198756788635555 := ()
noncomputable def hd.tw12514934266488696258 := ()
noncomputable def hd.tw13612356696625548495 := ()
noncomputable def hd.tw1689398702954995442 := ()
noncomputable def hd.tw16923434350874899410 := ()
noncomputable def hd.tw7545607046596277589 := ()
noncomputable def hd.tw1766836328177353804 := ()
noncomputable def hd.tw2578664619171744065 := ()
noncomputable def hd.tw6290794782709030667 := ()
noncomputable def hd.tw9172983782586541609 := ()
noncomputable def hd.tw18382291551752432958 := ()
noncomputable def hd.tw4656660301177915904 := ()
noncomputable def hd.tw9081136785585012494 := ()
noncomputable def hd.tw1544692156038062315 := ()
noncomputable def hd.tw2500123986403144534 := ()
noncomputable def hd.tw13870840193022904356 := ()
noncomputable def hd.tw13476800834763524800 := ()
noncomputable def hd.tw6458856115336403839 := ()
noncomputable def hd.tw9676249900482254787 := ()
noncomputable def hd.tw11096435417532430714 := ()
noncomputable def hd.tw13161413056948110555 := ()
noncomputable def hd.tw8041999238755284073 := ()
noncomputable def hd.tw8090132721166268843 := ()
noncomputable def hd.tw12970165291849976607 := ()
noncomputable def hd.tw12651830449013751399 := ()
noncomputable def hd.tw7750746256745428444 := ()
noncomputable def hd.tw284708990790700052 := ()
noncomputable def hd.tw10750023337785130544 := ()
noncomputable def hd.tw13667372708910201172 := ()
noncomputable def hd.tw3850387871015525788 := ()
noncomputable def hd.tw17363402937343873251 := ()
noncomputable def hd.tw8316003520459398866 := ()
noncomputable def hd.tw8707944404705077753 := ()
noncomputable def hd.tw16873690882679003056 := ()
noncomputable def hd.tw7411579870644361506 := ()
noncomputable def hd.tw14988688215242004601 := ()
noncomputable def hd.tw3330253229059872247 := ()
noncomputable def hd.tw4997099466004526054 := ()
noncomputable def hd.tw15747522212796498170 := ()
noncomputable def hd.tw8408027171735970975 := ()
noncomputable def hd.tw16316866392330701913 := ()
noncomputable def hd.tw3223564732473588584 := ()
noncomputable def hd.tw18422071941198230858 := ()
noncomputable def hd.tw12397215177375214048 := ()
noncomputable def hd.tw8052213157672451649 := ()
noncomputable def hd.tw12199066148036119554 := ()
noncomputable def hd.tw14042018696891947016 := ()
noncomputable def hd.tw11779410140133391341 := ()
noncomputable def hd.tw6189552764326288730 := ()
noncomputable def hd.tw8008461852434595 := ()
noncomputable def hd.tw12038415445497950047 := ()
noncomputable def hd.tw6104674359501821243 := ()
noncomputable def hd.tw15771305115321529970 := ()
noncomputable def hd.tw17102085700513015719 := ()
noncomputable def hd.tw6822299281094458261 := ()
noncomputable def hd.tw10255496299800679748 := ()
noncomputable def hd.tw13631683265634074017 := ()
noncomputable def hd.tw10962632458387515818 := ()
noncomputable def hd.tw9630380000694901875 := ()
noncomputable def hd.tw6658362414027384427 := ()
noncomputable def hd.tw5696089481158040656 := ()
noncomputable def hd.tw901345755096213522 := ()
noncomputable def hd.tw4511033262968797405 := ()
noncomputable def hd.tw2420428234428407764 := ()
noncomputable def hd.tw16720271705919185859 := ()
noncomputable def hd.tw16496701651415964842 := ()
noncomputable def hd.tw12405996720577171538 := ()
noncomputable def hd.tw18084593235726305347 := ()
noncomputable def hd.tw3517092165058076233 := ()
noncomputable def hd.tw13662126258420605389 := ()
noncomputable def hd.tw2539645661491407655 := ()
noncomputable def hd.tw7212813629726539513 := ()
noncomputable def hd.tw3549602234331296970 := ()
noncomputable def hd.tw9840219020149833770 := ()
noncomputable def hd.tw12402124429246650724 := ()
noncomputable def hd.tw16768752007280865829 := ()
noncomputable def hd.tw17668990668960627064 := ()
noncomputable def hd.tw7663697451446553551 := ()
noncomputable def hd.tw14099161907169784179 := ()
noncomputable def hd.tw17132527517639757238 := ()
noncomputable def hd.tw7538673330498072486 := ()
noncomputable def hd.tw16602744986013499829 := ()
noncomputable def hd.tw16013379938285113807 := ()
noncomputable def hd.tw7867700915729449031 := ()
noncomputable def hd.tw13272630097141436628 := ()
noncomputable def hd.tw3347742833447572331 := ()
noncomputable def hd.tw8946731486044592338 := ()
noncomputable def hd.tw10235624648534414162 := ()
noncomputable def hd.tw1038015773363062198 := ()
noncomputable def hd.tw3561900744854275946 := ()
noncomputable def hd.tw1783532735710337341 := ()
noncomputable def hd.tw1566002801106564058 := ()
noncomputable def hd.tw13176266602007309933 := ()
noncomputable def hd.tw14123165488061304005 := ()
noncomputable def hd.tw17300790564314385441 := ()
noncomputable def hd.tw5304515737896876170 := ()
noncomputable def hd.tw9653515634402102164 := ()
noncomputable def hd.tw3474139257325363375 := ()
noncomputable def hd.tw2206898047421669133 := ()
noncomputable def hd.tw187691207855370502 := ()
noncomputable def hd.tw4604032358000923713 := ()
noncomputable def hd.tw4622736619410407024 := ()
noncomputable def hd.tw11665376386208396004 := ()
noncomputable def hd.tw7955965639142894880 := ()
noncomputable def hd.tw13756562430658241480 := ()
noncomputable def hd.tw6634785796484572423 := ()
noncomputable def hd.tw16940213912736320748 := ()
noncomputable def hd.tw6954833184432182087 := ()
noncomputable def hd.tw3312967731688911209 := ()
noncomputable def hd.tw2902086380943452850 := ()
noncomputable def hd.tw14941050745748219770 := ()
noncomputable def hd.tw13151767886559145655 := ()
noncomputable def hd.tw6380405518486951370 := ()
noncomputable def hd.tw1955883107928110174 := ()
noncomputable def hd.tw16842572331575868519 := ()
noncomputable def hd.tw16015283249360106489 := ()
noncomputable def hd.tw14337641035492616230 := ()
noncomputable def hd.tw5773362803046557366 := ()
noncomputable def hd.tw8622532889890991365 := ()
noncomputable def hd.tw17166654002328329511 := ()
noncomputable def hd.tw7268755335451731890 := ()
noncomputable def hd.tw7595972504294481369 := ()
noncomputable def hd.tw12022024748141583122 := ()
noncomputable def hd.tw10690981876296186461 := ()
noncomputable def hd.tw12281153543022633975 := ()
noncomputable def hd.tw16719104104096383441 := ()
noncomputable def hd.tw5614674299674582299 := ()
noncomputable def hd.tw11163437863416377987 := ()
noncomputable def hd.tw14257869132630581922 := ()
noncomputable def hd.tw13566546697051961812 := ()
noncomputable def hd.tw3092865943821305037 := ()
noncomputable def hd.tw5544295658813777213 := ()
noncomputable def hd.tw4951323281649837314 := ()
noncomputable def hd.tw5644469063392577503 := ()
noncomputable def hd.tw11170713569069051608 := ()
noncomputable def hd.tw1859883327092846866 := ()
noncomputable def hd.tw2561798759834175586 := ()
noncomputable def hd.tw5359674823108850474 := ()
noncomputable def hd.tw15688720257246885728 := ()
noncomputable def hd.tw4823170912813349077 := ()
noncomputable def hd.tw861525513700015394 := ()
noncomputable def hd.tw10425974851155700153 := ()
noncomputable def hd.tw12035022456203767239 := ()
noncomputable def hd.tw3239846983850405127 := ()
noncomputable def hd.tw8810082067579888450 := ()
noncomputable def hd.tw12068208736861346518 := ()
noncomputable def hd.tw16862321156306052537 := ()
noncomputable def hd.tw12677300430719970623 := ()
noncomputable def hd.tw6276732306564267573 := ()
noncomputable def hd.tw672205483957506652 := ()
noncomputable def hd.tw15077505825259507724 := ()
noncomputable def hd.tw2877550682807973462 := ()
noncomputable def hd.tw4644434241761171290 := ()
noncomputable def hd.tw15001336573587127813 := ()
noncomputable def hd.tw17222200551803865767 := ()
noncomputable def hd.tw9046772704909967919 := ()
noncomputable def hd.tw1863164776847420521 := ()
noncomputable def hd.tw7242002070725941430 := ()
noncomputable def hd.tw11772769850910939392 := ()
noncomputable def hd.tw5065967152352600455 := ()
noncomputable def hd.tw3304606885003607563 := ()
noncomputable def hd.tw6430881242581390757 := ()
noncomputable def hd.tw11118492216131945759 := ()
noncomputable def hd.tw4943070994074016970 := ()
noncomputable def hd.tw12166878684980676938 := ()
noncomputable def hd.tw16180909762649246328 := ()
noncomputable def hd.tw18103557036315325352 := ()
noncomputable def hd.tw13600115774790771592 := ()
noncomputable def hd.tw11507015583769690620 := ()
noncomputable def hd.tw320373074949605385 := ()
noncomputable def hd.tw3104003153340902466 := ()
noncomputable def hd.tw11442180373884817783 := ()
noncomputable def hd.tw4804615888007018581 := ()
noncomputable def hd.tw17704371435589978708 := ()
noncomputable def hd.tw17390499277147904045 := ()
noncomputable def hd.tw13862605955432866945 := ()
noncomputable def hd.tw8555814799931068796 := ()
noncomputable def hd.tw6984870655289581892 := ()
noncomputable def hd.tw1987738605409315595 := ()
noncomputable def hd.tw4395140262402293126 := ()
noncomputable def hd.tw15461364787786737810 := ()
noncomputable def hd.tw16635725894722928861 := ()
noncomputable def hd.tw10404288035707679679 := ()
noncomputable def hd.tw702258845031095304 := ()
noncomputable def hd.tw13067155535730796097 := ()
noncomputable def hd.tw12862994402924777107 := ()
noncomputable def hd.tw4990225991762718188 := ()
noncomputable def hd.tw14284225615619585402 := ()
noncomputable def hd.tw6652754094153949404 := ()
noncomputable def hd.tw7702758016443105461 := ()
noncomputable def hd.tw13328725974424501234 := ()
noncomputable def hd.tw23187650917424080 := ()
noncomputable def hd.tw7324543315325900473 := ()
noncomputable def hd.tw11632454995186416861 := ()
noncomputable def hd.tw12402849082208453489 := ()
noncomputable def hd.tw1036526561860365158 := ()
noncomputable def hd.tw11315590629875930189 := ()
noncomputable def hd.tw16589688304965971554 := ()
noncomputable def hd.tw10248675860658264462 := ()
noncomputable def hd.tw14482640015055259674 := ()
noncomputable def hd.tw1897920073137812104 := ()
noncomputable def hd.tw15829527843278047843 := ()
noncomputable def hd.tw3318433128508324215 := ()
noncomputable def hd.tw17718030335452449428 := ()
noncomputable def hd.tw14331608641706307786 := ()
noncomputable def hd.tw845066567646705091 := ()
noncomputable def hd.tw13351087198946108706 := ()
noncomputable def hd.tw168415796352117771 := ()
noncomputable def hd.tw5882813745274230618 := ()
noncomputable def hd.tw5992485639022132956 := ()
noncomputable def hd.tw1572155812036211344 := ()
noncomputable def hd.tw13190625001018161092 := ()
noncomputable def hd.tw14371668328734893724 := ()
noncomputable def hd.tw11876281445954454702 := ()
noncomputable def hd.tw9039685595466246377 := ()
noncomputable def hd.tw9617578625912666597 := ()
noncomputable def hd.tw16567352765562826803 := ()
noncomputable def hd.tw18098404817771173448 := ()
noncomputable def hd.tw13548241379802531444 := ()
noncomputable def hd.tw5677621849136646028 := ()
noncomputable def hd.tw6845610156387022195 := ()
noncomputable def hd.tw16690958273065741859 := ()
noncomputable def hd.tw6675697359985384173 := ()
noncomputable def hd.tw8466219242303411678 := ()
noncomputable def hd.tw15416949776163082420 := ()
noncomputable def hd.tw13924620134372213217 := ()
noncomputable def hd.tw3479903822507707644 := ()
noncomputable def hd.tw3004925925977994068 := ()
noncomputable def hd.tw16495931132009865534 := ()
noncomputable def hd.tw7187419353917420051 := ()
noncomputable def hd.tw14599692895461507186 := ()
noncomputable def hd.tw11279196610920437083 := ()
noncomputable def hd.tw14398500177493335651 := ()
noncomputable def hd.tw17451349616889285015 := ()
noncomputable def hd.tw15298110418099908976 := ()
noncomputable def hd.tw16898247869951256261 := ()
noncomputable def hd.tw3542495261031057992 := ()
noncomputable def hd.tw11864330456121256504 := ()
noncomputable def hd.tw10594717119822434193 := ()
noncomputable def hd.tw13246846673421650616 := ()
noncomputable def hd.tw16704355783015135807 := ()
noncomputable def hd.tw6910409349101572268 := ()
noncomputable def hd.tw13552189207111562445 := ()
noncomputable def hd.tw356884489477263816 := ()
noncomputable def hd.tw12543135895819941658 := ()
noncomputable def hd.tw9118600894802423618 := ()
noncomputable def hd.tw9266784233636732648 := ()
noncomputable def hd.tw11273772415915914202 := ()
noncomputable def hd.tw3346746410609087733 := ()
noncomputable def hd.tw3421379617692617809 := ()
noncomputable def hd.tw9420886809583880998 := ()
noncomputable def hd.tw9769021378704136257 := ()
noncomputable def hd.tw8899755494036320797 := ()
noncomputable def hd.tw5046058748921322368 := ()
noncomputable def hd.tw18184804320058317116 := ()
noncomputable def hd.tw10436415708528055982 := ()
noncomputable def hd.tw7301971750881326418 := ()
noncomputable def hd.tw9382645801572823709 := ()
noncomputable def hd.tw858711412536030659 := ()
noncomputable def hd.tw12362307900925580520 := ()
noncomputable def hd.tw6088603462746386058 := ()
noncomputable def hd.tw9918682868109307284 := ()
noncomputable def hd.tw7349436775508252025 := ()
noncomputable def hd.tw14409347735438799974 := ()
noncomputable def hd.tw851045036320393065 := ()
noncomputable def hd.tw12793041303666134578 := ()
noncomputable def hd.tw2312991602315143505 := ()
noncomputable def hd.tw10750524874781169104 := ()
noncomputable def hd.tw16647577335674638289 := ()
noncomputable def hd.tw3256819799508146003 := ()
noncomputable def hd.tw13583146221553287367 := ()
noncomputable def hd.tw9450270952018596056 := ()
noncomputable def hd.tw8639211561902699652 := ()
noncomputable def hd.tw2493337664698090171 := ()
noncomputable def hd.tw12710619991497780653 := ()
noncomputable def hd.tw11566097957321847800 := ()
noncomputable def hd.tw14263679942142755950 := ()
noncomputable def hd.tw16045058560956310305 := ()
set_option Elab.async true
theorem hd : PySem.Challenge.rw_xm0851_01.Holds := by
  w_on
  o_law
  k_head
  case hw => w_witness2
  intro w s₀ s₁ mg mb G Y a hmg hg args vals as hpre hlay hrd hwl hlo
  wrow_args hpre hlay hrd hwl hlo
  rename_i script hs hlay0 hL1 hr1 hl2 as4 as3 sc us as1 hL ra w1 r0 hI hr hc1 hc2
  exact Mine.walk_end G Y hmg hg hL hI hc1
end Hd
end
theorem PySem.Challenge.cw_xm0851_01_holds : PySem.Challenge.rw_xm0851_01.Holds := by
  exact Hd.hd
