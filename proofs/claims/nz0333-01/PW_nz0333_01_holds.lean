import PyProof.Rows.All
import Wide.All
import OpenK.AllK
import Wide.FinOn
import Lean
import PySem.Challenge.RW_nz0333_01
open PySem PySem.W PyProof.Rows
set_option Elab.async false
set_option maxRecDepth 100000
set_option maxHeartbeats 0
set_option linter.unusedVariables false
namespace Mine
local macro_rules | `(tactic| walk_at $s:str) => `(tactic| k_extra $s)
def holdIds : List String := ["bytearray.__contains__", "bytearray.__mod__", "bytearray.__rmod__", "_struct.pack_into.held", "bytearray.find.held"] ++ Builtin.Bytes.decodersThatHold
def okCode : Code → Bool
  | .builtin id _ => !holdIds.contains id
  | _ => true
def OkSt (l : List (Code × Pos)) : Prop := ∀ x ∈ l, okCode x.1 = true
/-- as wpAny, for the contexts whose stack holds no buffer -/
def wpC {α : Type} (M : Model) (A : Around) (t : Sem α) (Q : α → Shared → Prop) (E : Value → Shared → Prop) (s : Shared) : Prop :=
  ∀ Γ p, Γ.In A → okCode Γ.code = true → OkSt Γ.below → Sem.wp M Γ t (fun a _ s' => Q a s') (fun e _ s' => E e s') p s
def codeC (M : Model) (A : Around) (c : Code) (R : Result → Shared → Prop) (s : Shared) : Prop :=
  ∀ Γ p, Γ.code = c → Γ.Below A → OkSt Γ.below → wpCode M Γ R p s
section
variable {α β : Type} {M : Model} {A : Around} {E : Value → Shared → Prop} {s : Shared} {env : Env}
theorem wpC_of {t : Sem α} {Q : α → Shared → Prop} (h : wpAny M A t Q E s) : wpC M A t Q E s := fun Γ p hΓ _ _ => h Γ p hΓ
theorem codeC_of {c : Code} {R : Result → Shared → Prop} (h : codeAny M A c R s) : codeC M A c R s := fun Γ p hc hΓ _ => h Γ p hc hΓ
theorem wpC_mono {t : Sem α} {Q Q' : α → Shared → Prop} {E' : Value → Shared → Prop} (h : wpC M A t Q E s) (hQ : ∀ a s, Q a s → Q' a s) (hE : ∀ e s, E e s → E' e s) : wpC M A t Q' E' s :=
  fun Γ p hΓ h1 h2 => Sem.wp_mono M Γ t (fun a _ s => hQ a s) (fun e _ s => hE e s) p s (h Γ p hΓ h1 h2)
theorem wpC_bind {m : Sem α} {f : α → Sem β} {Q : β → Shared → Prop} (h : wpC M A m (fun a s' => wpC M A (f a) Q E s') E s) : wpC M A (m >>= f) Q E s := fun Γ p hΓ h1 h2 => by
  rw [Sem.wp_bind']
  exact Sem.wp_mono M Γ m (fun a p' s' h' => h' Γ p' hΓ h1 h2) (fun _ _ _ h' => h') p s (h Γ p hΓ h1 h2)
theorem wpC_pure {a : α} {Q : α → Shared → Prop} (h : Q a s) : wpC M A (pure a) Q E s := fun _ _ _ _ _ => h
theorem wpC_holding {vs : List Value} {m : Sem α} {Q : α → Shared → Prop} (h : wpC M A m Q E s) : wpC M A (holding vs m) Q E s := fun Γ p hΓ h1 h2 => by
  rw [Sem.wp_holding]; exact h Γ p hΓ h1 h2
theorem wpC_keep {vs : List Value} {m : Sem α} {Q : α → Shared → Prop} (h : wpC M A m Q E s) : wpC M A (m.keep vs) Q E s := fun Γ p hΓ h1 h2 => by
  rw [Sem.wp_keep]; exact h Γ p hΓ h1 h2
theorem wpC_operate {vs : List Value} {m : Sem Value} {Q : Value → Shared → Prop} (h : wpC M A m Q E s) : wpC M A (operate vs m) Q E s := fun Γ p hΓ h1 h2 => by
  rw [Sem.wp_operate]; exact h Γ p hΓ h1 h2
theorem wpC_tryCatch {m : Sem α} {k : Value → Sem α} {Q : α → Shared → Prop} (h : wpC M A m Q (fun e s' => wpC M A (k e) Q E s') s) : wpC M A (tryCatch m k) Q E s := fun Γ p hΓ h1 h2 => by
  rw [Sem.wp_tryCatch']
  exact Sem.wp_mono M Γ m (fun _ _ _ h' => h') (fun e p' s' h' => h' Γ p' hΓ h1 h2) p s (h Γ p hΓ h1 h2)
theorem wpC_onRaise {m : Sem α} {k : Value → Sem Unit} {Q : α → Shared → Prop} (h : wpC M A m Q (fun e s' => wpC M A (k e) (fun _ s'' => E e s'') E s') s) : wpC M A (m.onRaise k) Q E s := fun Γ p hΓ h1 h2 => by
  rw [Sem.wp_onRaise]
  exact Sem.wp_mono M Γ m (fun _ _ _ h' => h') (fun e p' s' h' => h' Γ p' hΓ h1 h2) p s (h Γ p hΓ h1 h2)
theorem wpC_standAt {p : Pos} {f : Unit → Sem β} {Q : β → Shared → Prop} (h : wpC M A (f ()) Q E s) : wpC M A (standAt p >>= f) Q E s := wpC_bind (wpC_of (wpAny_standAt h))
theorem wpC_run {c : Code} {h : Option Value} {Q : Flow → Shared → Prop}
    (hc : codeC M (A.mark h) c (fun r s' => match r with | .ok f => Q f s' | .error e => E e s') s) (hnb : h ≠ some byPass := by intro x; cases x) : wpC M A (run c h) Q E s := fun Γ p hΓ h1 h2 => by
  rw [Sem.wp_run]
  exact hc _ p rfl (hΓ.enter c h p hnb) (fun x hx => by
    rcases List.mem_cons.mp hx with rfl | hx
    · exact h1
    · exact h2 x hx)
theorem wpC_runValue {c : Code} {Q : Value → Shared → Prop}
    (hc : codeC M A c (fun r s' => match r with | .ok (.ret v) => Q v s' | .ok _ => False | .error e => E e s') s) : wpC M A (runValue c) Q E s := fun Γ p hΓ h1 h2 => by
  rw [Sem.wp_runValue]
  exact hc _ p rfl (hΓ.enter c none p (by intro x; cases x)) (fun x hx => by
    rcases List.mem_cons.mp hx with rfl | hx
    · exact h1
    · exact h2 x hx)
theorem wpC_call {f : Value} {pos : List Value} {kw : List (PySem.Str × Value)} {Q : Value → Shared → Prop}
    (hc : codeC M A (.call f ⟨pos, kw⟩) (fun r s' => match r with | .ok (.ret v) => Q v s' | .ok _ => False | .error e => E e s') s) : wpC M A (call f pos kw) Q E s := wpC_runValue hc
theorem codeC_mono {c : Code} {R R' : Result → Shared → Prop} (h : codeC M A c R s) (hR : ∀ r s, R r s → R' r s) : codeC M A c R' s := fun Γ p hc hΓ h2 => wpCode_mono hR (h Γ p hc hΓ h2)
/-- what is left of a code behind one turn -/
abbrev TurnC (M : Model) (A : Around) (R : Result → Shared → Prop) (fin : Fin) (s' : Shared) : Prop :=
  match fin with | .done f => R (.ok f) s' | .again c' => c'.quiet = true ∧ codeC M A c' R s'
theorem codeC_of_tree {c : Code} {R : Result → Shared → Prop} (hk : okCode c = true)
    (h : wpC M (A.under c) (M.den c) (TurnC M A R) (fun e s' => R (.error e) s') s) : codeC M A c R s := fun Γ p hc hΓ h2 => by
  rw [wpCode_iff_wp, hc]
  refine Sem.wp_mono M Γ _ (fun fin p' s' h' => ?_) (fun _ _ _ h' => h') p s (h Γ p (hc ▸ hΓ.in) (hc ▸ hk) h2)
  cases fin with
  | done f => exact h'
  | again c' => exact ⟨h'.1, h'.2 (Γ.goto c') p' rfl (hΓ.goto c') h2⟩
theorem wpC_stackAny {f : Code × Pos → Bool} {Q : Bool → Shared → Prop} (hf : ∀ x, okCode x.1 = true → f x = false) (h : Q false s) : wpC M A (do return (← stack).any f) Q E s := fun Γ p hΓ h1 h2 => by
  have e : ((Γ.code, p) :: Γ.below).any f = false := by
    rw [List.any_eq_false]
    intro x hx
    rw [hf x (by
      rcases List.mem_cons.mp hx with rfl | hx
      · exact h1
      · exact h2 x hx)]
    exact Bool.false_ne_true
  show Q (((Γ.code, p) :: Γ.below).any f) s
  rw [e]
  exact h
theorem ok_dec {id : String} {as : Args} (h : okCode (.builtin id as) = true) : Builtin.Bytes.decodersThatHold.contains id = false := by
  simp only [okCode, holdIds, Bool.not_eq_true', List.contains_eq_mem, List.mem_append, decide_eq_false_iff_not, not_or] at h
  rw [List.contains_eq_mem, decide_eq_false_iff_not]
  exact h.2
theorem wpC_exported {a : Addr} {Q : Bool → Shared → Prop} (h : Q false s) : wpC M A (Builtin.Bytes.exported (.ref a)) Q E s := by
  unfold Builtin.Bytes.exported
  refine wpC_stackAny (fun x hx => ?_) h
  split
  · exact absurd hx (by simp [okCode, holdIds])
  · exact absurd hx (by simp [okCode, holdIds])
  · exact absurd hx (by simp [okCode, holdIds])
  · exact absurd hx (by simp [okCode, holdIds])
  · exact absurd hx (by simp [okCode, holdIds])
  · rw [ok_dec hx, Bool.and_false]
  · rfl
end

/-- a tree behind a look at the stack: on a stack that holds a buffer it gives True at once -/
def guardC (t : Sem Value) : Sem Value := stack >>= fun st => if st.all (fun x => okCode x.1) then t else pure (.bool true)
theorem guardC_any {M : Model} {A : Around} {t : Sem Value} {Q : Value → Shared → Prop} {E : Value → Shared → Prop} {s : Shared} (h : wpC M A t Q E s) (h0 : Q (.bool true) s) : wpAny M A (guardC t) Q E s := fun Γ p hΓ => by
  unfold guardC
  rw [Sem.wp_bind']
  show Sem.wp M Γ (if ((Γ.code, p) :: Γ.below).all (fun x => okCode x.1) then t else pure (.bool true)) _ _ p s
  by_cases hc : ((Γ.code, p) :: Γ.below).all (fun x => okCode x.1) = true
  · rw [if_pos hc]
    have hc' := List.all_eq_true.mp hc
    exact h Γ p hΓ (hc' _ (.head _)) (fun x hx => hc' x (.tail _ hx))
  · rw [if_neg hc]; exact h0
theorem guardC_out {M : Model} {A : Around} {t : Sem Value} {Q : Value → Shared → Prop} {E : Value → Shared → Prop} {s : Shared} (h : wpAny M A (guardC t) Q E s) : wpC M A t Q E s := fun Γ p hΓ h1 h2 => by
  have hc : ((Γ.code, p) :: Γ.below).all (fun x => okCode x.1) = true := List.all_eq_true.mpr fun x hx => by
    rcases List.mem_cons.mp hx with rfl | hx
    · exact h1
    · exact h2 x hx
  have := h Γ p hΓ
  unfold guardC at this
  rw [Sem.wp_bind'] at this
  have this : Sem.wp M Γ (if ((Γ.code, p) :: Γ.below).all (fun x => okCode x.1) then t else pure (.bool true)) (fun a _ s' => Q a s') (fun e _ s' => E e s') p s := this
  rw [if_pos hc] at this
  exact this
theorem thread_endsC {prog : Program} {w : World} {t : Sem Fin} {s : Shared} {R : Result → Shared → Prop} (hreg : s.asleep)
    (h : wpC (model prog w) callerA t (fun fin s' => ∃ f, fin = .done f ∧ (R (.ok f) s' ∧ leftWithCleanup s'.gens = false)) (fun e s' => R (.error e) s' ∧ leftWithCleanup s'.gens = false) s) :
    ∃ n r s' s'', runN (denote table) prog w n s ⟨t, .builtin "claim.caller" {}, default, []⟩ = .halted (outcomeOf r) s' ∧
      schedN (denote table) prog w n (.single s ⟨t, .builtin "claim.caller" {}, default, []⟩) = .halted (outcomeOf r) s' ∧ s'.forget = s''.forget ∧ R r s'' := by
  have hw := h ⟨.builtin "claim.caller" {}, none, none, [], none⟩ default caller_in (by decide +kernel) (fun x hx => nomatch hx)
  obtain ⟨n, r, s₁, s₂, hs, hn, hfo, hR⟩ := wp_halts_full (M := model prog w) (R := R) hreg (Sem.wp_mono _ _ _ (fun fin p' s' h' => by
    obtain ⟨f, rfl, hf⟩ := h'
    exact hf) (fun _ _ _ h' => h') _ _ hw)
  exact ⟨n, r, s₂, s₁, hn, hs, hfo, hR⟩
/-- the head of an open row whose call is walked on stacks that hold no buffer -/
theorem head_open {r : OpenRow} {q : Program} {loose : List PySem.Str} {Xt : Shared → Bool} {XP : (PySem.Str → Option Value) → Heap → Prop} {α : Type} {Yf : Shared → α} {Ya : World → α} {YP : World → Heap → Prop} {d : DefRec} {kwd : List (PySem.Str × PySem.Expr)} {N : Nat}
    (left : LeftO r.prog q loose Xt Yf Ya N) (hY : ∀ w s, Yf s = Ya w → YP w s.heap) (hYk : ∀ w h h', YP w h → (∀ b o, h.get? b = some o → h'.get? b = some o) → YP w h')
    (hX : ∀ s, Xt s = true → XP (s.heap.nsMap mainGlobals) s.heap) (hXk : ∀ mg h h', XP mg h → (∀ b o, h.get? b = some o → h'.get? b = some o) → XP mg h')
    (hdef : defOf q r.name = some (d, kwd)) (hp : r.prog.theDef r.name = some (d.params, d.body, d.scope)) (hk : kwWritten? d.params.kwonlyargs d.params.kw_defaults = some kwd) (hRf : ∀ s, Xt s = true → RecFacts r.records s.heap) (hwr : (!r.writes || r.records.isEmpty) = true)
    (k1 : r.wellSaid = true) (ok : (chainsOk q && opensWell r.prog && (frees r.toRowW && r.within.isEmpty)) = true) (hb : r.prog.bare) (hw : r.toRowW.promised)
    (call : WalkO q loose XP YP r.toRowW d kwd fun f vs => guardC (PySem.call f vs)) : r.Holds := by
  have ok0 := ok
  simp only [Bool.and_eq_true] at ok
  obtain ⟨⟨hch, o1⟩, kf, kw⟩ := ok
  obtain ⟨hsame, hu, ha, hap, hm⟩ := frees_parts kf
  refine ⟨k1, hw, ⟨hb, o1, by show r.makers.map _ = []; rw [show r.makers = [] from hm]; rfl⟩, hw.witness, fun w => ⟨(left.behind hX hch w).1, fun s' hs' => ?_⟩⟩
  obtain ⟨s₀, hf, hg0, s, hT, hz, hgens, hg, G00, y⟩ := (left.behind (XP := fun mg h => XP mg h ∧ RecFacts r.records h) (fun s hs => ⟨hX s hs, hRf s hs⟩) hch w).2 s' hs'
  have G0 : Ground q loose [] XP w s (s.heap.nsMap mainGlobals) (s.heap.nsMap builtinsNs) s.heap := ⟨G00.T, G00.B, G00.D, G00.TE, G00.TD, G00.W, G00.X.1, G00.cls, G00.has, G00.apart, G00.once, G00.K⟩
  have RF := G00.X.2
  refine ⟨s₀, hf, hg0, s, hT, fun n hn => ?_, RF.1, RF.2.1, fun args hpre hlay ord hord => ?_⟩
  · obtain rfl : n = r.name := by split at hn <;> simp_all
    exact pinned_of_view hg G0 hdef hp hk
  have hgens : s.gens = #[] := Array.eq_empty_of_size_eq_zero (beq_iff_eq.mp hgens)
  have G : Ground q loose r.records XP w s _ _ s.heap := RF.ground G0
  obtain ⟨⟨vs, s₁⟩, hlaid⟩ := Option.isSome_iff_exists.mp (layAllW_isSome (P := w.params) (ord := ord) G.has args r.args s (pre_splitW hpre).1)
  have keeps := layAllW_keeps _ _ _ hlaid
  have hal := layAllW_rest _ _ _ hlaid
  obtain ⟨as, hrd, hin, hold⟩ := reads_layAllW hord _ _ _ hlaid hlay s₁.heap (fun _ _ e => e)
  have L : Laid r.records w s s₁ args vs as := ⟨⟨ord, hord, hlaid⟩, hrd, hin, hold, keeps, hal.1.trans hgens, hal.2.2.1⟩
  have G₁ := G.keeps hXk keeps
  obtain ⟨a, o, pm, cd, doc, dV, kV, h1, h2, h3, h4, h5⟩ := G₁.fn hdef
  have hwalk := guardC_out (call w s s₁ _ _ G₁ (hYk _ _ _ (hY w s y) keeps) a o pm cd doc dV kV h2 h3 h4 h5 (defOf_name hdef ▸ h1) L.gens args vs as hpre hlay L.reads L.well (L.low G.low))
  have hi := ident_freeW hu ha hap
  have hwi : r.toRowW.claim.within = [] := List.isEmpty_iff.mp kw
  have ends : ∀ {res : Result} {s' : Shared}, GoodWG r.toRowW.claim (classAt s.heap) (ExcName.means s.heap) args s₁ res s' →
      (r.toRowW.claim.Ends s args vs s₁ res s' ∧ s'.os = s.os ∧ (r.writes = true → namesKept r.toRowW.claim.prog r.keeps s.heap s'.heap ∧ ∀ x ∈ r.toRowW.claim.records, ∀ a, classAt s.heap x.1 = some a → recordClass s'.heap a x.1 (x.2.map (·.1)) = true)) ∧ leftWithCleanup s'.gens = false := fun g =>
    have z := g.laid (c := r.toRowW.claim) hsame hwi hi L
    ⟨⟨z.1, z.2.1, fun q => ⟨namesKept_of hT hg r.keeps keeps g.2.1.old, noTable hwr q⟩⟩, leftWithCleanup_false_of_bare z.2.2⟩
  obtain ⟨k, res, s', s'', hrun, hsched, hfo, hcase, hos, hkp⟩ := thread_endsC (prog := r.prog) (w := w) (s := s₁)
    (t := do match ← nsGet mainNs r.name with
      | some f => do ret (← PySem.call f vs)
      | none => unsupported "claim.caller:no-such-global")
    (R := fun res s' => r.toRowW.claim.Ends s args vs s₁ res s' ∧ s'.os = s.os ∧ (r.writes = true → namesKept r.toRowW.claim.prog r.keeps s.heap s'.heap ∧ ∀ x ∈ r.toRowW.claim.records, ∀ a, classAt s.heap x.1 = some a → recordClass s'.heap a x.1 (x.2.map (·.1)) = true))
    (Shared.asleep_of_life hal.2.2.2 hz)
    (wpC_bind (wpC_of (wpAny_nsGet G₁.T.g (by
      rw [show s.heap.nsMap mainGlobals r.name = some (.ref a) from h1]
      exact wpC_bind (wpC_mono hwalk (fun v s' g => wpC_pure ⟨_, rfl, ends g⟩) fun e s' g => ends g)))))
  obtain ⟨eh, _, _, eo, _⟩ := Shared.forget_eq hfo
  have hcase := hcase.congr eh
  rw [← eo] at hos
  rw [← eh] at hkp
  have hlife : s'.heap.life = s.heap.life := (runN_life _ _ _ hrun).trans hal.2.2.2
  refine ⟨vs, s₁, hlaid, k, _, s', hsched, ?_, (fun _ i x hx => by rw [hgens] at hx; simp at hx), hkp, by rw [hlife], Shared.rest_eq hos⟩
  rcases hcase with ⟨v, rfl, d1, d2, d3, d4, d5⟩ | ⟨e, ob, cls, rfl, d1, d2, d3, d4, d5⟩
  · exact .inl ⟨v, rfl, d1, d2, d3, fun b o y _ => d4 b o y, d5⟩
  · exact .inr ⟨e, ob, cls, rfl, d1, d2, d3, d4, fun b o y _ => d5 b o y⟩

end Mine
namespace Mine.PySem.W
/-- stands in for the kit's head where only its constants are wanted -/
theorem holds_open {r : OpenRow} {q : Program} {loose : List PySem.Str} {Xt : Shared → Bool} {XP : (PySem.Str → Option Value) → Heap → Prop} {α : Type} {Yf : Shared → α} {Ya : World → α} {YP : World → Heap → Prop} {N : Nat}
    (left : True) (hY : ∀ w s, Yf s = Ya w → YP w s.heap) (hYk : ∀ w h h', YP w h → (∀ b o, h.get? b = some o → h'.get? b = some o) → YP w h')
    (hX : ∀ s, Xt s = true → XP (s.heap.nsMap mainGlobals) s.heap) (hXk : ∀ mg h h', XP mg h → (∀ b o, h.get? b = some o → h'.get? b = some o) → XP mg h')
    (hdef : 0 = 0) (hp : 0 = 0) (hk : 0 = 0) (hRf : ∀ s, Xt s = true → RecFacts r.records s.heap) (hwr : 0 = 0)
    (k1 : r.wellSaid = true) (ok : true = true) (hb : 0 = 0 ∧ 0 = 0 ∧ 0 = 0 ∧ 0 = 0 ∧ 0 = 0 ∧ true = true) (hw : True)
    (call : False) : r.Holds := call.elim
end Mine.PySem.W
namespace Mine
theorem hd (h : False) : PySem.Challenge.rw_nz0333_01.Holds := by
  w_on
  refine holds_law h.elim fun said => ?_
  refine (fun (_ : True) (_ : False) => ?rest) ?hl ?hc
  case rest =>
    k_head
    trivial
  case hl => trivial
  case hc => exact h

noncomputable abbrev pw : Program := PySem.Challenge.pw_nz0333_01
noncomputable def bdT : List Stmt := behindTheImports pw
noncomputable def nthS : List Stmt → Nat → Stmt
  | [], _ => .Pass (Pos.mk 0 0 0 0)
  | s :: _, 0 => s
  | _ :: r, n + 1 => nthS r n
noncomputable def stA (i : Nat) : Stmt := nthS bdT i
noncomputable def stB (i j : Nat) : Stmt := match stA i with
  | .ClassDef _ _ _ b _ _ _ _ _ _ _ => nthS b j
  | s => s
noncomputable def prS (s : Stmt) : Arguments := match s with
  | .FunctionDef _ a _ _ _ _ _ _ _ _ => a
  | _ => default
noncomputable def bdS (s : Stmt) : List Stmt := match s with
  | .FunctionDef _ _ b _ _ _ _ _ _ _ => b
  | _ => []
noncomputable def scS (s : Stmt) : Scope := match s with
  | .FunctionDef _ _ _ _ _ _ sc _ _ _ => sc
  | _ => pw.main.scope
abbrev sS (s : String) : PySem.Str := PySem.Str.ofString s
abbrev vN : Value := .none
abbrev vT : Value := .bool true
abbrev vF : Value := .bool false
abbrev vR (a : Nat) : Value := .ref a
abbrev vI (n : Int) : Value := .int n 0
abbrev vS (s : String) (t : Nat) : Value := .str (PySem.Str.ofString s) t
abbrev oT (vs : List Value) : Obj := Obj.mk (.type "tuple") none (.seq (Array.mk vs) 0) (Array.mk [])
abbrev oC (vs : List Value) : Obj := Obj.mk (.type "code") none (.fields (Array.mk vs)) (Array.mk [])
abbrev oF (vs : List Value) : Obj := Obj.mk .none none (.fields (Array.mk vs)) (Array.mk [])
abbrev oO (c : Value) (d : Option Nat) (x : Data) : Obj := Obj.mk c d x (Array.mk [])
noncomputable abbrev fD (s : Stmt) (name qual : PySem.Str) (sc : Scope) (gl : Nat) (cl : List (PySem.Str × Nat)) (dv kv doc pm : Value) (an : Option Nat) (cd ct : Value) (bi : Nat) : FuncData :=
  FuncData.mk name qual (prS s) (.stmts (bdS s)) sc gl cl dv kv doc pm an cd ct bi
abbrev cD (name : PySem.Str) (bases mro : List Value) (ns : Nat) (qual : PySem.Str) (hasDict : Bool) (sl : List PySem.Str) (sub : List Value) (ab : Bool) (col : Option Bool) (dl : Bool) : ClassData := ClassData.mk name bases mro ns qual hasDict sl sub ab col dl
abbrev dE (P : Params) (x : String) (t : Nat) (v : Value) : DictEntry := DictEntry.mk (PyData.keyHash P (PySem.Str.ofString x)) (.str (PySem.Str.ofString x) t) v

abbrev tn0 : BT := BT.nil
abbrev tnd (o : Obj) (l r : BT) : BT := BT.node o l r

noncomputable def to11 (P : Params) : Obj := oT []
noncomputable def to13 (P : Params) : Obj := oC [(vS "<module>" 182), (vS "<module>" 183), (vS "/claim/cut.py" 184), (vI 1), (vI 0), (vI 0), (vI 0), (vI 0), (vR 11), vF, (vI 181), (vR 12), vN, vN, vN, vN, (vI 185), (vI 1), (vS "/claim/cut.py" 186)]
noncomputable def to14 (P : Params) : Obj := Obj.mk (.type "frame") none .plain (Array.mk [(some (vR 13)), (some (vR 3)), (some (vR 3)), none, (some (vS "__main__" 164)), none, (some (vR 0))])
noncomputable def to15 (P : Params) : Obj := oT []
noncomputable def to16 (P : Params) : Obj := oF []
noncomputable def to17 (P : Params) : Obj := oT [(vS "k" 190)]
noncomputable def to18 (P : Params) : Obj := oT []
noncomputable def to19 (P : Params) : Obj := oO vN none (.func (fD (stA 0) (sS "_wall") (sS "_wall") (scS (stA 0)) 0 [] vN vN vN vN none vN vN 0))
noncomputable def to20 (P : Params) : Obj := oC [(vS "_wall" 187), (vS "_wall" 188), (vS "/claim/cut.py" 189), (vI 1), (vI 1), (vI 0), (vI 0), (vI 3), (vR 15), vT, (vI 181), (vR 16), vN, (vR 17), (vR 18), (vR 19), (vI 191), (vI 1), (vS "/claim/cut.py" 192)]
noncomputable def to21 (P : Params) : Obj := oO (.type "function") none (.func (fD (stA 0) (sS "_wall") (sS "_wall") (scS (stA 0)) 3 [] vN vN vN (vS "__main__" 164) none (vR 20) vN 0))
noncomputable def to22 (P : Params) : Obj := oT [(.type "Exception")]
noncomputable def to23 (P : Params) : Obj := oO (.type "builtin_function_or_method") none (.fields (Array.mk [(.builtin "type.__prepare__"), (.type "type")]))
noncomputable def to24 (P : Params) : Obj := oO (.type "dict") none (.dict (Array.mk [dE P "__module__" 203 (vS "postkeep.errors" 194), dE P "__qualname__" 205 (vS "PostError" 204), dE P "__firstlineno__" 207 (.int 5 206), dE P "__init__" 218 (vR 36), dE P "told" 225 (vR 43), dE P "__static_attributes__" 228 (vR 44)]) 6)
noncomputable def to25 (P : Params) : Obj := oT []
noncomputable def to26 (P : Params) : Obj := oF [(vI 7), (vI 4), (vR 35), (vI 12), (vI 4), (vR 42)]
noncomputable def to27 (P : Params) : Obj := oC [(vS "PostError" 198), (vS "PostError" 199), (vS "/claim/cut.py" 200), (vI 5), (vI 0), (vI 0), (vI 0), (vI 0), (vR 25), vF, (vI 181), (vR 26), vN, vN, vN, vN, (vI 201), (vI 5), (vS "/claim/cut.py" 202)]
noncomputable def to28 (P : Params) : Obj := Obj.mk (.type "frame") none .plain (Array.mk [(some (vR 27)), (some (vR 3)), (some (vR 24)), none, (some (vS "postkeep.errors" 194)), none, (some (vR 0))])
noncomputable def to29 (P : Params) : Obj := oT [(.int (-1) 209)]
noncomputable def to30 (P : Params) : Obj := oT []
noncomputable def to31 (P : Params) : Obj := oF []
noncomputable def to32 (P : Params) : Obj := oT [(vS "self" 213), (vS "what" 214), (vS "at" 215)]
noncomputable def to33 (P : Params) : Obj := oT []
noncomputable def to34 (P : Params) : Obj := oO vN none (.func (fD (stB 2 0) (sS "__init__") (sS "PostError.__init__") (scS (stB 2 0)) 0 [] vN vN vN vN none vN vN 0))
noncomputable def to35 (P : Params) : Obj := oC [(vS "__init__" 210), (vS "PostError.__init__" 211), (vS "/claim/cut.py" 212), (vI 7), (vI 3), (vI 0), (vI 0), (vI 3), (vR 30), vT, (vI 181), (vR 31), vN, (vR 32), (vR 33), (vR 34), (vI 216), (vI 7), (vS "/claim/cut.py" 217)]
noncomputable def to36 (P : Params) : Obj := oO (.type "function") none (.func (fD (stB 2 0) (sS "__init__") (sS "PostError.__init__") (scS (stB 2 0)) 3 [] (vR 29) vN vN (vS "postkeep.errors" 194) none (vR 35) vN 0))
noncomputable def to37 (P : Params) : Obj := oT []
noncomputable def to38 (P : Params) : Obj := oF []
noncomputable def to39 (P : Params) : Obj := oT [(vS "self" 222)]
noncomputable def to40 (P : Params) : Obj := oT []
noncomputable def to41 (P : Params) : Obj := oO vN none (.func (fD (stB 2 1) (sS "told") (sS "PostError.told") (scS (stB 2 1)) 0 [] vN vN vN vN none vN vN 0))
noncomputable def to42 (P : Params) : Obj := oC [(vS "told" 219), (vS "PostError.told" 220), (vS "/claim/cut.py" 221), (vI 12), (vI 1), (vI 0), (vI 0), (vI 3), (vR 37), vT, (vI 181), (vR 38), vN, (vR 39), (vR 40), (vR 41), (vI 223), (vI 12), (vS "/claim/cut.py" 224)]
noncomputable def to43 (P : Params) : Obj := oO (.type "function") none (.func (fD (stB 2 1) (sS "told") (sS "PostError.told") (scS (stB 2 1)) 3 [] vN vN vN (vS "postkeep.errors" 194) none (vR 42) vN 0))
noncomputable def to44 (P : Params) : Obj := oT [(vS "at" 226), (vS "what" 227)]
noncomputable def to45 (P : Params) : Obj := oO (.type "dict") none (.dict (Array.mk [dE P "__module__" 203 (vS "postkeep.errors" 194), dE P "__firstlineno__" 207 (.int 5 206), dE P "__init__" 218 (vR 36), dE P "told" 225 (vR 43), dE P "__static_attributes__" 228 (vR 44), dE P "__weakref__" 230 (vR 47), dE P "__doc__" 231 vN]) 3)
noncomputable def to47 (P : Params) : Obj := oO (.type "getset_descriptor") none (.fields (Array.mk [(vS "__weakref__" 229), (vR 46), (.builtin "ExceptionGroup.__weakref__"), vN]))
noncomputable def to48 (P : Params) : Obj := oO (.type "super") none (.fields (Array.mk [(vR 46), (vR 46), (vR 46)]))
noncomputable def to49 (P : Params) : Obj := oO (.type "builtin_function_or_method") none (.fields (Array.mk [(.builtin "object.__init_subclass__"), (vR 46)]))
noncomputable def to50 (P : Params) : Obj := oT [(vR 46)]
noncomputable def to51 (P : Params) : Obj := oO (.type "builtin_function_or_method") none (.fields (Array.mk [(.builtin "type.__prepare__"), (.type "type")]))
noncomputable def to52 (P : Params) : Obj := oO (.type "dict") none (.dict (Array.mk [dE P "__module__" 243 (vS "postkeep.errors" 194), dE P "__qualname__" 245 (vS "WordFault" 244), dE P "__firstlineno__" 247 (.int 14 246), dE P "__static_attributes__" 248 (vR 57)]) 4)
noncomputable def to53 (P : Params) : Obj := oT []
noncomputable def to54 (P : Params) : Obj := oF []
noncomputable def to55 (P : Params) : Obj := oC [(vS "WordFault" 238), (vS "WordFault" 239), (vS "/claim/cut.py" 240), (vI 14), (vI 0), (vI 0), (vI 0), (vI 0), (vR 53), vF, (vI 181), (vR 54), vN, vN, vN, vN, (vI 241), (vI 14), (vS "/claim/cut.py" 242)]
noncomputable def to56 (P : Params) : Obj := Obj.mk (.type "frame") none .plain (Array.mk [(some (vR 55)), (some (vR 3)), (some (vR 52)), none, (some (vS "postkeep.errors" 194)), none, (some (vR 0))])
noncomputable def to57 (P : Params) : Obj := oT []
noncomputable def to58 (P : Params) : Obj := oO (.type "dict") none (.dict (Array.mk [dE P "__module__" 243 (vS "postkeep.errors" 194), dE P "__firstlineno__" 247 (.int 14 246), dE P "__static_attributes__" 248 (vR 57), dE P "__doc__" 249 vN]) 2)
noncomputable def to59 (P : Params) : Obj := Obj.mk (.type "type") none (.cls (cD (sS "WordFault") [(vR 46)] [(vR 59), (vR 46), (.type "Exception"), (.type "BaseException"), (.type "object")] 58 (sS "WordFault") true [] [] false none false)) (Array.mk [(some (vR 50)), none, (some (vS "WordFault" 236)), (some (vS "WordFault" 244)), (some (.builtin "Exception.__new__")), (some vT)])
noncomputable def to60 (P : Params) : Obj := oO (.type "super") none (.fields (Array.mk [(vR 59), (vR 59), (vR 59)]))
noncomputable def to61 (P : Params) : Obj := oO (.type "builtin_function_or_method") none (.fields (Array.mk [(.builtin "object.__init_subclass__"), (vR 59)]))
noncomputable def to62 (P : Params) : Obj := oT [(vR 46)]
noncomputable def to63 (P : Params) : Obj := oO (.type "builtin_function_or_method") none (.fields (Array.mk [(.builtin "type.__prepare__"), (.type "type")]))
noncomputable def to64 (P : Params) : Obj := oO (.type "dict") none (.dict (Array.mk [dE P "__module__" 259 (vS "postkeep.errors" 194), dE P "__qualname__" 261 (vS "MimeFault" 260), dE P "__firstlineno__" 263 (.int 16 262), dE P "__static_attributes__" 264 (vR 69)]) 4)
noncomputable def to65 (P : Params) : Obj := oT []
noncomputable def to66 (P : Params) : Obj := oF []
noncomputable def to67 (P : Params) : Obj := oC [(vS "MimeFault" 254), (vS "MimeFault" 255), (vS "/claim/cut.py" 256), (vI 16), (vI 0), (vI 0), (vI 0), (vI 0), (vR 65), vF, (vI 181), (vR 66), vN, vN, vN, vN, (vI 257), (vI 16), (vS "/claim/cut.py" 258)]
noncomputable def to68 (P : Params) : Obj := Obj.mk (.type "frame") none .plain (Array.mk [(some (vR 67)), (some (vR 3)), (some (vR 64)), none, (some (vS "postkeep.errors" 194)), none, (some (vR 0))])
noncomputable def to69 (P : Params) : Obj := oT []
noncomputable def to70 (P : Params) : Obj := oO (.type "dict") none (.dict (Array.mk [dE P "__module__" 259 (vS "postkeep.errors" 194), dE P "__firstlineno__" 263 (.int 16 262), dE P "__static_attributes__" 264 (vR 69), dE P "__doc__" 265 vN]) 2)
noncomputable def to71 (P : Params) : Obj := Obj.mk (.type "type") none (.cls (cD (sS "MimeFault") [(vR 46)] [(vR 71), (vR 46), (.type "Exception"), (.type "BaseException"), (.type "object")] 70 (sS "MimeFault") true [] [] false none false)) (Array.mk [(some (vR 62)), none, (some (vS "MimeFault" 252)), (some (vS "MimeFault" 260)), (some (.builtin "Exception.__new__")), (some vT)])
noncomputable def to72 (P : Params) : Obj := oO (.type "super") none (.fields (Array.mk [(vR 71), (vR 71), (vR 71)]))
noncomputable def to73 (P : Params) : Obj := oO (.type "builtin_function_or_method") none (.fields (Array.mk [(.builtin "object.__init_subclass__"), (vR 71)]))
noncomputable def to74 (P : Params) : Obj := oT [(vR 46)]
noncomputable def to75 (P : Params) : Obj := oO (.type "builtin_function_or_method") none (.fields (Array.mk [(.builtin "type.__prepare__"), (.type "type")]))
noncomputable def to76 (P : Params) : Obj := oO (.type "dict") none (.dict (Array.mk [dE P "__module__" 275 (vS "postkeep.errors" 194), dE P "__qualname__" 277 (vS "NameFault" 276), dE P "__firstlineno__" 279 (.int 18 278), dE P "__static_attributes__" 280 (vR 81)]) 4)
noncomputable def to77 (P : Params) : Obj := oT []
noncomputable def to78 (P : Params) : Obj := oF []
noncomputable def to79 (P : Params) : Obj := oC [(vS "NameFault" 270), (vS "NameFault" 271), (vS "/claim/cut.py" 272), (vI 18), (vI 0), (vI 0), (vI 0), (vI 0), (vR 77), vF, (vI 181), (vR 78), vN, vN, vN, vN, (vI 273), (vI 18), (vS "/claim/cut.py" 274)]
noncomputable def to80 (P : Params) : Obj := Obj.mk (.type "frame") none .plain (Array.mk [(some (vR 79)), (some (vR 3)), (some (vR 76)), none, (some (vS "postkeep.errors" 194)), none, (some (vR 0))])
noncomputable def to81 (P : Params) : Obj := oT []
noncomputable def to82 (P : Params) : Obj := oO (.type "dict") none (.dict (Array.mk [dE P "__module__" 275 (vS "postkeep.errors" 194), dE P "__firstlineno__" 279 (.int 18 278), dE P "__static_attributes__" 280 (vR 81), dE P "__doc__" 281 vN]) 2)
noncomputable def to83 (P : Params) : Obj := Obj.mk (.type "type") none (.cls (cD (sS "NameFault") [(vR 46)] [(vR 83), (vR 46), (.type "Exception"), (.type "BaseException"), (.type "object")] 82 (sS "NameFault") true [] [] false none false)) (Array.mk [(some (vR 74)), none, (some (vS "NameFault" 268)), (some (vS "NameFault" 276)), (some (.builtin "Exception.__new__")), (some vT)])
noncomputable def to84 (P : Params) : Obj := oO (.type "super") none (.fields (Array.mk [(vR 83), (vR 83), (vR 83)]))
noncomputable def to85 (P : Params) : Obj := oO (.type "builtin_function_or_method") none (.fields (Array.mk [(.builtin "object.__init_subclass__"), (vR 83)]))
noncomputable def to86 (P : Params) : Obj := oT [(vR 46)]
noncomputable def to87 (P : Params) : Obj := oO (.type "builtin_function_or_method") none (.fields (Array.mk [(.builtin "type.__prepare__"), (.type "type")]))
noncomputable def to88 (P : Params) : Obj := oO (.type "dict") none (.dict (Array.mk [dE P "__module__" 291 (vS "postkeep.errors" 194), dE P "__qualname__" 293 (vS "SetFault" 292), dE P "__firstlineno__" 295 (.int 20 294), dE P "__static_attributes__" 296 (vR 93)]) 4)
noncomputable def to89 (P : Params) : Obj := oT []
noncomputable def to90 (P : Params) : Obj := oF []
noncomputable def to91 (P : Params) : Obj := oC [(vS "SetFault" 286), (vS "SetFault" 287), (vS "/claim/cut.py" 288), (vI 20), (vI 0), (vI 0), (vI 0), (vI 0), (vR 89), vF, (vI 181), (vR 90), vN, vN, vN, vN, (vI 289), (vI 20), (vS "/claim/cut.py" 290)]
noncomputable def to92 (P : Params) : Obj := Obj.mk (.type "frame") none .plain (Array.mk [(some (vR 91)), (some (vR 3)), (some (vR 88)), none, (some (vS "postkeep.errors" 194)), none, (some (vR 0))])
noncomputable def to93 (P : Params) : Obj := oT []
noncomputable def to94 (P : Params) : Obj := oO (.type "dict") none (.dict (Array.mk [dE P "__module__" 291 (vS "postkeep.errors" 194), dE P "__firstlineno__" 295 (.int 20 294), dE P "__static_attributes__" 296 (vR 93), dE P "__doc__" 297 vN]) 2)
noncomputable def to95 (P : Params) : Obj := Obj.mk (.type "type") none (.cls (cD (sS "SetFault") [(vR 46)] [(vR 95), (vR 46), (.type "Exception"), (.type "BaseException"), (.type "object")] 94 (sS "SetFault") true [] [] false none false)) (Array.mk [(some (vR 86)), none, (some (vS "SetFault" 284)), (some (vS "SetFault" 292)), (some (.builtin "Exception.__new__")), (some vT)])
noncomputable def to96 (P : Params) : Obj := oO (.type "super") none (.fields (Array.mk [(vR 95), (vR 95), (vR 95)]))
noncomputable def to97 (P : Params) : Obj := oO (.type "builtin_function_or_method") none (.fields (Array.mk [(.builtin "object.__init_subclass__"), (vR 95)]))
noncomputable def to98 (P : Params) : Obj := oT [(vR 46)]
noncomputable def to99 (P : Params) : Obj := oO (.type "builtin_function_or_method") none (.fields (Array.mk [(.builtin "type.__prepare__"), (.type "type")]))
noncomputable def to100 (P : Params) : Obj := oO (.type "dict") none (.dict (Array.mk [dE P "__module__" 307 (vS "postkeep.errors" 194), dE P "__qualname__" 309 (vS "WireFault" 308), dE P "__firstlineno__" 311 (.int 22 310), dE P "__static_attributes__" 312 (vR 105)]) 4)
noncomputable def to101 (P : Params) : Obj := oT []
noncomputable def to102 (P : Params) : Obj := oF []
noncomputable def to103 (P : Params) : Obj := oC [(vS "WireFault" 302), (vS "WireFault" 303), (vS "/claim/cut.py" 304), (vI 22), (vI 0), (vI 0), (vI 0), (vI 0), (vR 101), vF, (vI 181), (vR 102), vN, vN, vN, vN, (vI 305), (vI 22), (vS "/claim/cut.py" 306)]
noncomputable def to104 (P : Params) : Obj := Obj.mk (.type "frame") none .plain (Array.mk [(some (vR 103)), (some (vR 3)), (some (vR 100)), none, (some (vS "postkeep.errors" 194)), none, (some (vR 0))])
noncomputable def to105 (P : Params) : Obj := oT []
noncomputable def to106 (P : Params) : Obj := oO (.type "dict") none (.dict (Array.mk [dE P "__module__" 307 (vS "postkeep.errors" 194), dE P "__firstlineno__" 311 (.int 22 310), dE P "__static_attributes__" 312 (vR 105), dE P "__doc__" 313 vN]) 2)
noncomputable def to107 (P : Params) : Obj := Obj.mk (.type "type") none (.cls (cD (sS "WireFault") [(vR 46)] [(vR 107), (vR 46), (.type "Exception"), (.type "BaseException"), (.type "object")] 106 (sS "WireFault") true [] [] false none false)) (Array.mk [(some (vR 98)), none, (some (vS "WireFault" 300)), (some (vS "WireFault" 308)), (some (.builtin "Exception.__new__")), (some vT)])
noncomputable def to108 (P : Params) : Obj := oO (.type "super") none (.fields (Array.mk [(vR 107), (vR 107), (vR 107)]))
noncomputable def to109 (P : Params) : Obj := oO (.type "builtin_function_or_method") none (.fields (Array.mk [(.builtin "object.__init_subclass__"), (vR 107)]))
noncomputable def to110 (P : Params) : Obj := oT []
noncomputable def to111 (P : Params) : Obj := oF []
noncomputable def to112 (P : Params) : Obj := oO vN none (.func (fD (stA 9) (sS "worth_table") (sS "worth_table") (scS (stA 9)) 0 [] vN vN vN vN none vN vN 0))
noncomputable def to113 (P : Params) : Obj := oC [(vS "worth_table" 318), (vS "worth_table" 319), (vS "/claim/cut.py" 320), (vI 25), (vI 1), (vI 0), (vI 0), (vI 3), (vR 110), vT, (vI 181), (vR 111), vN, vN, vN, (vR 112), (vI 321), (vI 25), (vS "/claim/cut.py" 322)]
noncomputable def to114 (P : Params) : Obj := oO (.type "function") none (.func (fD (stA 9) (sS "worth_table") (sS "worth_table") (scS (stA 9)) 3 [] vN vN vN (vS "postkeep.base64" 316) none (vR 113) vN 0))
noncomputable def to115 (P : Params) : Obj := oT []
noncomputable def to116 (P : Params) : Obj := oF []
noncomputable def to117 (P : Params) : Obj := oO vN none (.func (fD (stA 10) (sS "group_codes") (sS "group_codes") (scS (stA 10)) 0 [] vN vN vN vN none vN vN 0))
noncomputable def to118 (P : Params) : Obj := oC [(vS "group_codes" 324), (vS "group_codes" 325), (vS "/claim/cut.py" 326), (vI 27), (vI 2), (vI 0), (vI 0), (vI 3), (vR 115), vT, (vI 181), (vR 116), vN, vN, vN, (vR 117), (vI 327), (vI 27), (vS "/claim/cut.py" 328)]
noncomputable def to119 (P : Params) : Obj := oO (.type "function") none (.func (fD (stA 10) (sS "group_codes") (sS "group_codes") (scS (stA 10)) 3 [] vN vN vN (vS "postkeep.base64" 316) none (vR 118) vN 0))
noncomputable def to120 (P : Params) : Obj := oT []
noncomputable def to121 (P : Params) : Obj := oF []
noncomputable def to122 (P : Params) : Obj := oO vN none (.func (fD (stA 11) (sS "group_octets") (sS "group_octets") (scS (stA 11)) 0 [] vN vN vN vN none vN vN 0))
noncomputable def to123 (P : Params) : Obj := oC [(vS "group_octets" 330), (vS "group_octets" 331), (vS "/claim/cut.py" 332), (vI 34), (vI 1), (vI 0), (vI 0), (vI 3), (vR 120), vT, (vI 181), (vR 121), vN, vN, vN, (vR 122), (vI 333), (vI 34), (vS "/claim/cut.py" 334)]
noncomputable def to124 (P : Params) : Obj := oO (.type "function") none (.func (fD (stA 11) (sS "group_octets") (sS "group_octets") (scS (stA 11)) 3 [] vN vN vN (vS "postkeep.base64" 316) none (vR 123) vN 0))
noncomputable def to125 (P : Params) : Obj := oT []
noncomputable def to126 (P : Params) : Obj := oF []
noncomputable def to127 (P : Params) : Obj := oT [(vS "octets" 339), (vS "alphabet" 340), (vS "codes" 341), (vS "begin" 342)]
noncomputable def to128 (P : Params) : Obj := oT []
noncomputable def to129 (P : Params) : Obj := oO vN none (.func (fD (stA 12) (sS "part_encoded") (sS "part_encoded") (scS (stA 12)) 0 [] vN vN vN vN none vN vN 0))
noncomputable def to130 (P : Params) : Obj := oC [(vS "part_encoded" 336), (vS "part_encoded" 337), (vS "/claim/cut.py" 338), (vI 42), (vI 2), (vI 0), (vI 0), (vI 3), (vR 125), vT, (vI 181), (vR 126), vN, (vR 127), (vR 128), (vR 129), (vI 343), (vI 42), (vS "/claim/cut.py" 344)]
noncomputable def to131 (P : Params) : Obj := oO (.type "function") none (.func (fD (stA 12) (sS "part_encoded") (sS "part_encoded") (scS (stA 12)) 3 [] vN vN vN (vS "postkeep.base64" 316) none (vR 130) vN 0))
noncomputable def to132 (P : Params) : Obj := oT []
noncomputable def to133 (P : Params) : Obj := oF []
noncomputable def to134 (P : Params) : Obj := oT [(vS "signs" 349), (vS "worths" 350), (vS "worth_row" 351), (vS "at" 352)]
noncomputable def to135 (P : Params) : Obj := oT []
noncomputable def to136 (P : Params) : Obj := oO vN none (.func (fD (stA 13) (sS "part_numbers") (sS "part_numbers") (scS (stA 13)) 0 [] vN vN vN vN none vN vN 0))
noncomputable def to137 (P : Params) : Obj := oC [(vS "part_numbers" 346), (vS "part_numbers" 347), (vS "/claim/cut.py" 348), (vI 47), (vI 2), (vI 0), (vI 0), (vI 3), (vR 132), vT, (vI 181), (vR 133), vN, (vR 134), (vR 135), (vR 136), (vI 353), (vI 47), (vS "/claim/cut.py" 354)]
noncomputable def to138 (P : Params) : Obj := oO (.type "function") none (.func (fD (stA 13) (sS "part_numbers") (sS "part_numbers") (scS (stA 13)) 3 [] vN vN vN (vS "postkeep.base64" 316) none (vR 137) vN 0))
noncomputable def to139 (P : Params) : Obj := oT []
noncomputable def to140 (P : Params) : Obj := oF []
noncomputable def to141 (P : Params) : Obj := oT [(vS "signs" 359), (vS "alphabet" 360), (vS "worth_row" 361), (vS "found" 362), (vS "begin" 363), (vS "group" 364), (vS "octets" 365), (vS "spare" 366)]
noncomputable def to142 (P : Params) : Obj := oT []
noncomputable def to143 (P : Params) : Obj := oO vN none (.func (fD (stA 14) (sS "part_decoded") (sS "part_decoded") (scS (stA 14)) 0 [] vN vN vN vN none vN vN 0))
noncomputable def to144 (P : Params) : Obj := oC [(vS "part_decoded" 356), (vS "part_decoded" 357), (vS "/claim/cut.py" 358), (vI 54), (vI 2), (vI 0), (vI 0), (vI 3), (vR 139), vT, (vI 181), (vR 140), vN, (vR 141), (vR 142), (vR 143), (vI 367), (vI 54), (vS "/claim/cut.py" 368)]
noncomputable def to145 (P : Params) : Obj := oO (.type "function") none (.func (fD (stA 14) (sS "part_decoded") (sS "part_decoded") (scS (stA 14)) 3 [] vN vN vN (vS "postkeep.base64" 316) none (vR 144) vN 0))
noncomputable def to146 (P : Params) : Obj := oT []
noncomputable def to147 (P : Params) : Obj := oF []
noncomputable def to148 (P : Params) : Obj := oT [(vS "code" 377)]
noncomputable def to149 (P : Params) : Obj := oT []
noncomputable def to150 (P : Params) : Obj := oO vN none (.func (fD (stA 17) (sS "is_plain_code") (sS "is_plain_code") (scS (stA 17)) 0 [] vN vN vN vN none vN vN 0))
noncomputable def to151 (P : Params) : Obj := oC [(vS "is_plain_code" 374), (vS "is_plain_code" 375), (vS "/claim/cut.py" 376), (vI 68), (vI 1), (vI 0), (vI 0), (vI 3), (vR 146), vT, (vI 181), (vR 147), vN, (vR 148), (vR 149), (vR 150), (vI 378), (vI 68), (vS "/claim/cut.py" 379)]
noncomputable def to152 (P : Params) : Obj := oO (.type "function") none (.func (fD (stA 17) (sS "is_plain_code") (sS "is_plain_code") (scS (stA 17)) 3 [] vN vN vN (vS "postkeep.names" 370) none (vR 151) vN 0))
noncomputable def to153 (P : Params) : Obj := oT []
noncomputable def to154 (P : Params) : Obj := oF []
noncomputable def to155 (P : Params) : Obj := oT [(vS "code" 384)]
noncomputable def to156 (P : Params) : Obj := oT []
noncomputable def to157 (P : Params) : Obj := oO vN none (.func (fD (stA 18) (sS "is_half") (sS "is_half") (scS (stA 18)) 0 [] vN vN vN vN none vN vN 0))
noncomputable def to158 (P : Params) : Obj := oC [(vS "is_half" 381), (vS "is_half" 382), (vS "/claim/cut.py" 383), (vI 70), (vI 1), (vI 0), (vI 0), (vI 3), (vR 153), vT, (vI 181), (vR 154), vN, (vR 155), (vR 156), (vR 157), (vI 385), (vI 70), (vS "/claim/cut.py" 386)]
noncomputable def to159 (P : Params) : Obj := oO (.type "function") none (.func (fD (stA 18) (sS "is_half") (sS "is_half") (scS (stA 18)) 3 [] vN vN vN (vS "postkeep.names" 370) none (vR 158) vN 0))
noncomputable def to160 (P : Params) : Obj := oT []
noncomputable def to161 (P : Params) : Obj := oF []
noncomputable def to162 (P : Params) : Obj := oT [(vS "text" 391), (vS "begin" 392), (vS "end" 393), (vS "out" 394), (vS "at" 395), (vS "code" 396), (vS "high" 397)]
noncomputable def to163 (P : Params) : Obj := oT []
noncomputable def to164 (P : Params) : Obj := oO vN none (.func (fD (stA 19) (sS "utf16_octets") (sS "utf16_octets") (scS (stA 19)) 0 [] vN vN vN vN none vN vN 0))
noncomputable def to165 (P : Params) : Obj := oC [(vS "utf16_octets" 388), (vS "utf16_octets" 389), (vS "/claim/cut.py" 390), (vI 72), (vI 3), (vI 0), (vI 0), (vI 3), (vR 160), vT, (vI 181), (vR 161), vN, (vR 162), (vR 163), (vR 164), (vI 398), (vI 72), (vS "/claim/cut.py" 399)]
noncomputable def to166 (P : Params) : Obj := oO (.type "function") none (.func (fD (stA 19) (sS "utf16_octets") (sS "utf16_octets") (scS (stA 19)) 3 [] vN vN vN (vS "postkeep.names" 370) none (vR 165) vN 0))
noncomputable def to167 (P : Params) : Obj := oT []
noncomputable def to168 (P : Params) : Obj := oF []
noncomputable def to169 (P : Params) : Obj := oT [(vS "text" 404), (vS "begin" 405), (vS "end" 406)]
noncomputable def to170 (P : Params) : Obj := oT []
noncomputable def to171 (P : Params) : Obj := oO vN none (.func (fD (stA 20) (sS "run_behind") (sS "run_behind") (scS (stA 20)) 0 [] vN vN vN vN none vN vN 0))
noncomputable def to172 (P : Params) : Obj := oC [(vS "run_behind" 401), (vS "run_behind" 402), (vS "/claim/cut.py" 403), (vI 86), (vI 2), (vI 0), (vI 0), (vI 3), (vR 167), vT, (vI 181), (vR 168), vN, (vR 169), (vR 170), (vR 171), (vI 407), (vI 86), (vS "/claim/cut.py" 408)]
noncomputable def to173 (P : Params) : Obj := oO (.type "function") none (.func (fD (stA 20) (sS "run_behind") (sS "run_behind") (scS (stA 20)) 3 [] vN vN vN (vS "postkeep.names" 370) none (vR 172) vN 0))
noncomputable def to174 (P : Params) : Obj := oT []
noncomputable def to175 (P : Params) : Obj := oF []
noncomputable def to176 (P : Params) : Obj := oT [(vS "text" 413), (vS "out" 414), (vS "at" 415), (vS "code" 416), (vS "end" 417)]
noncomputable def to177 (P : Params) : Obj := oT []
noncomputable def to178 (P : Params) : Obj := oO vN none (.func (fD (stA 21) (sS "utf7_octets") (sS "utf7_octets") (scS (stA 21)) 0 [] vN vN vN vN none vN vN 0))
noncomputable def to179 (P : Params) : Obj := oC [(vS "utf7_octets" 410), (vS "utf7_octets" 411), (vS "/claim/cut.py" 412), (vI 91), (vI 1), (vI 0), (vI 0), (vI 3), (vR 174), vT, (vI 181), (vR 175), vN, (vR 176), (vR 177), (vR 178), (vI 418), (vI 91), (vS "/claim/cut.py" 419)]
noncomputable def to180 (P : Params) : Obj := oO (.type "function") none (.func (fD (stA 21) (sS "utf7_octets") (sS "utf7_octets") (scS (stA 21)) 3 [] vN vN vN (vS "postkeep.names" 370) none (vR 179) vN 0))
noncomputable def to181 (P : Params) : Obj := oT []
noncomputable def to182 (P : Params) : Obj := oF []
noncomputable def to183 (P : Params) : Obj := oT [(vS "octets" 424), (vS "begin" 425), (vS "end" 426)]
noncomputable def to184 (P : Params) : Obj := oT []
noncomputable def to185 (P : Params) : Obj := oO vN none (.func (fD (stA 22) (sS "shift_behind") (sS "shift_behind") (scS (stA 22)) 0 [] vN vN vN vN none vN vN 0))
noncomputable def to186 (P : Params) : Obj := oC [(vS "shift_behind" 421), (vS "shift_behind" 422), (vS "/claim/cut.py" 423), (vI 108), (vI 2), (vI 0), (vI 0), (vI 3), (vR 181), vT, (vI 181), (vR 182), vN, (vR 183), (vR 184), (vR 185), (vI 427), (vI 108), (vS "/claim/cut.py" 428)]
noncomputable def to187 (P : Params) : Obj := oO (.type "function") none (.func (fD (stA 22) (sS "shift_behind") (sS "shift_behind") (scS (stA 22)) 3 [] vN vN vN (vS "postkeep.names" 370) none (vR 186) vN 0))
noncomputable def to188 (P : Params) : Obj := oT []
noncomputable def to189 (P : Params) : Obj := oF []
noncomputable def to190 (P : Params) : Obj := oT [(vS "raw" 433), (vS "begin" 434), (vS "signs" 435), (vS "high" 436), (vS "place" 437), (vS "at" 438), (vS "code" 439)]
noncomputable def to191 (P : Params) : Obj := oT []
noncomputable def to192 (P : Params) : Obj := oO vN none (.func (fD (stA 23) (sS "units_text") (sS "units_text") (scS (stA 23)) 0 [] vN vN vN vN none vN vN 0))
noncomputable def to193 (P : Params) : Obj := oC [(vS "units_text" 430), (vS "units_text" 431), (vS "/claim/cut.py" 432), (vI 115), (vI 2), (vI 0), (vI 0), (vI 3), (vR 188), vT, (vI 181), (vR 189), vN, (vR 190), (vR 191), (vR 192), (vI 440), (vI 115), (vS "/claim/cut.py" 441)]
noncomputable def to194 (P : Params) : Obj := oO (.type "function") none (.func (fD (stA 23) (sS "units_text") (sS "units_text") (scS (stA 23)) 3 [] vN vN vN (vS "postkeep.names" 370) none (vR 193) vN 0))
noncomputable def to195 (P : Params) : Obj := oT []
noncomputable def to196 (P : Params) : Obj := oF []
noncomputable def to197 (P : Params) : Obj := oT [(vS "octets" 446), (vS "begin" 447), (vS "end" 448), (vS "raw" 449), (vS "fault" 450)]
noncomputable def to198 (P : Params) : Obj := oT []
noncomputable def to199 (P : Params) : Obj := oO vN none (.func (fD (stA 24) (sS "shifted_text") (sS "shifted_text") (scS (stA 24)) 0 [] vN vN vN vN none vN vN 0))
noncomputable def to200 (P : Params) : Obj := oC [(vS "shifted_text" 443), (vS "shifted_text" 444), (vS "/claim/cut.py" 445), (vI 137), (vI 3), (vI 0), (vI 0), (vI 3), (vR 195), vT, (vI 181), (vR 196), vN, (vR 197), (vR 198), (vR 199), (vI 451), (vI 137), (vS "/claim/cut.py" 452)]
noncomputable def to201 (P : Params) : Obj := oO (.type "function") none (.func (fD (stA 24) (sS "shifted_text") (sS "shifted_text") (scS (stA 24)) 3 [] vN vN vN (vS "postkeep.names" 370) none (vR 200) vN 0))
noncomputable def to202 (P : Params) : Obj := oT []
noncomputable def to203 (P : Params) : Obj := oF []
noncomputable def to204 (P : Params) : Obj := oT [(vS "octets" 457), (vS "pieces" 458), (vS "at" 459), (vS "shift_end" 460), (vS "code" 461), (vS "end" 462)]
noncomputable def to205 (P : Params) : Obj := oT []
noncomputable def to206 (P : Params) : Obj := oO vN none (.func (fD (stA 25) (sS "utf7_text") (sS "utf7_text") (scS (stA 25)) 0 [] vN vN vN vN none vN vN 0))
noncomputable def to207 (P : Params) : Obj := oC [(vS "utf7_text" 454), (vS "utf7_text" 455), (vS "/claim/cut.py" 456), (vI 145), (vI 1), (vI 0), (vI 0), (vI 3), (vR 202), vT, (vI 181), (vR 203), vN, (vR 204), (vR 205), (vR 206), (vI 463), (vI 145), (vS "/claim/cut.py" 464)]
noncomputable def to208 (P : Params) : Obj := oO (.type "function") none (.func (fD (stA 25) (sS "utf7_text") (sS "utf7_text") (scS (stA 25)) 3 [] vN vN vN (vS "postkeep.names" 370) none (vR 207) vN 0))
noncomputable def to209 (P : Params) : Obj := oT []
noncomputable def to210 (P : Params) : Obj := oF []
noncomputable def to211 (P : Params) : Obj := oT [(vS "code" 473)]
noncomputable def to212 (P : Params) : Obj := oT []
noncomputable def to213 (P : Params) : Obj := oO vN none (.func (fD (stA 28) (sS "lower_code") (sS "lower_code") (scS (stA 28)) 0 [] vN vN vN vN none vN vN 0))
noncomputable def to214 (P : Params) : Obj := oC [(vS "lower_code" 470), (vS "lower_code" 471), (vS "/claim/cut.py" 472), (vI 169), (vI 1), (vI 0), (vI 0), (vI 3), (vR 209), vT, (vI 181), (vR 210), vN, (vR 211), (vR 212), (vR 213), (vI 474), (vI 169), (vS "/claim/cut.py" 475)]
noncomputable def to215 (P : Params) : Obj := oO (.type "function") none (.func (fD (stA 28) (sS "lower_code") (sS "lower_code") (scS (stA 28)) 3 [] vN vN vN (vS "postkeep.octets" 466) none (vR 214) vN 0))
noncomputable def to216 (P : Params) : Obj := oT []
noncomputable def to217 (P : Params) : Obj := oF []
noncomputable def to218 (P : Params) : Obj := oO vN none (.func (fD (stA 29) (sS "lower") (sS "lower") (scS (stA 29)) 0 [] vN vN vN vN none vN vN 0))
noncomputable def to219 (P : Params) : Obj := oC [(vS "lower" 477), (vS "lower" 478), (vS "/claim/cut.py" 479), (vI 171), (vI 1), (vI 0), (vI 0), (vI 3), (vR 216), vT, (vI 181), (vR 217), vN, vN, vN, (vR 218), (vI 480), (vI 171), (vS "/claim/cut.py" 481)]
noncomputable def to220 (P : Params) : Obj := oO (.type "function") none (.func (fD (stA 29) (sS "lower") (sS "lower") (scS (stA 29)) 3 [] vN vN vN (vS "postkeep.octets" 466) none (vR 219) vN 0))
noncomputable def to221 (P : Params) : Obj := oT []
noncomputable def to222 (P : Params) : Obj := oF []
noncomputable def to223 (P : Params) : Obj := oO vN none (.func (fD (stA 30) (sS "lower_text") (sS "lower_text") (scS (stA 30)) 0 [] vN vN vN vN none vN vN 0))
noncomputable def to224 (P : Params) : Obj := oC [(vS "lower_text" 483), (vS "lower_text" 484), (vS "/claim/cut.py" 485), (vI 173), (vI 1), (vI 0), (vI 0), (vI 3), (vR 221), vT, (vI 181), (vR 222), vN, vN, vN, (vR 223), (vI 486), (vI 173), (vS "/claim/cut.py" 487)]
noncomputable def to225 (P : Params) : Obj := oO (.type "function") none (.func (fD (stA 30) (sS "lower_text") (sS "lower_text") (scS (stA 30)) 3 [] vN vN vN (vS "postkeep.octets" 466) none (vR 224) vN 0))
noncomputable def to226 (P : Params) : Obj := oT []
noncomputable def to227 (P : Params) : Obj := oF []
noncomputable def to228 (P : Params) : Obj := oO vN none (.func (fD (stA 31) (sS "upper_text") (sS "upper_text") (scS (stA 31)) 0 [] vN vN vN vN none vN vN 0))
noncomputable def to229 (P : Params) : Obj := oC [(vS "upper_text" 489), (vS "upper_text" 490), (vS "/claim/cut.py" 491), (vI 175), (vI 1), (vI 0), (vI 0), (vI 3), (vR 226), vT, (vI 181), (vR 227), vN, vN, vN, (vR 228), (vI 492), (vI 175), (vS "/claim/cut.py" 493)]
noncomputable def to230 (P : Params) : Obj := oO (.type "function") none (.func (fD (stA 31) (sS "upper_text") (sS "upper_text") (scS (stA 31)) 3 [] vN vN vN (vS "postkeep.octets" 466) none (vR 229) vN 0))
noncomputable def to231 (P : Params) : Obj := oT []
noncomputable def to232 (P : Params) : Obj := oF []
noncomputable def to233 (P : Params) : Obj := oO vN none (.func (fD (stA 32) (sS "ascii_text") (sS "ascii_text") (scS (stA 32)) 0 [] vN vN vN vN none vN vN 0))
noncomputable def to234 (P : Params) : Obj := oC [(vS "ascii_text" 495), (vS "ascii_text" 496), (vS "/claim/cut.py" 497), (vI 177), (vI 1), (vI 0), (vI 0), (vI 3), (vR 231), vT, (vI 181), (vR 232), vN, vN, vN, (vR 233), (vI 498), (vI 177), (vS "/claim/cut.py" 499)]
noncomputable def to235 (P : Params) : Obj := oO (.type "function") none (.func (fD (stA 32) (sS "ascii_text") (sS "ascii_text") (scS (stA 32)) 3 [] vN vN vN (vS "postkeep.octets" 466) none (vR 234) vN 0))
noncomputable def to236 (P : Params) : Obj := oT []
noncomputable def to237 (P : Params) : Obj := oF []
noncomputable def to238 (P : Params) : Obj := oO vN none (.func (fD (stA 33) (sS "text_octets") (sS "text_octets") (scS (stA 33)) 0 [] vN vN vN vN none vN vN 0))
noncomputable def to239 (P : Params) : Obj := oC [(vS "text_octets" 501), (vS "text_octets" 502), (vS "/claim/cut.py" 503), (vI 182), (vI 1), (vI 0), (vI 0), (vI 3), (vR 236), vT, (vI 181), (vR 237), vN, vN, vN, (vR 238), (vI 504), (vI 182), (vS "/claim/cut.py" 505)]
noncomputable def to240 (P : Params) : Obj := oO (.type "function") none (.func (fD (stA 33) (sS "text_octets") (sS "text_octets") (scS (stA 33)) 3 [] vN vN vN (vS "postkeep.octets" 466) none (vR 239) vN 0))
noncomputable def to241 (P : Params) : Obj := oT []
noncomputable def to242 (P : Params) : Obj := oF []
noncomputable def to243 (P : Params) : Obj := oT [(vS "text" 514), (vS "at" 515), (vS "end" 516), (vS "number" 517)]
noncomputable def to244 (P : Params) : Obj := oT []
noncomputable def to245 (P : Params) : Obj := oO vN none (.func (fD (stA 36) (sS "read_end") (sS "read_end") (scS (stA 36)) 0 [] vN vN vN vN none vN vN 0))
noncomputable def to246 (P : Params) : Obj := oC [(vS "read_end" 511), (vS "read_end" 512), (vS "/claim/cut.py" 513), (vI 189), (vI 2), (vI 0), (vI 0), (vI 3), (vR 241), vT, (vI 181), (vR 242), vN, (vR 243), (vR 244), (vR 245), (vI 518), (vI 189), (vS "/claim/cut.py" 519)]
noncomputable def to247 (P : Params) : Obj := oO (.type "function") none (.func (fD (stA 36) (sS "read_end") (sS "read_end") (scS (stA 36)) 3 [] vN vN vN (vS "postkeep.sets" 507) none (vR 246) vN 0))
noncomputable def to248 (P : Params) : Obj := oT []
noncomputable def to249 (P : Params) : Obj := oF []
noncomputable def to250 (P : Params) : Obj := oT [(vS "text" 524), (vS "some" 525), (vS "at" 526), (vS "low" 527), (vS "high" 528)]
noncomputable def to251 (P : Params) : Obj := oT []
noncomputable def to252 (P : Params) : Obj := oO vN none (.func (fD (stA 37) (sS "read_set") (sS "read_set") (scS (stA 37)) 0 [] vN vN vN vN none vN vN 0))
noncomputable def to253 (P : Params) : Obj := oC [(vS "read_set" 521), (vS "read_set" 522), (vS "/claim/cut.py" 523), (vI 204), (vI 1), (vI 0), (vI 0), (vI 3), (vR 248), vT, (vI 181), (vR 249), vN, (vR 250), (vR 251), (vR 252), (vI 529), (vI 204), (vS "/claim/cut.py" 530)]
noncomputable def to254 (P : Params) : Obj := oO (.type "function") none (.func (fD (stA 37) (sS "read_set") (sS "read_set") (scS (stA 37)) 3 [] vN vN vN (vS "postkeep.sets" 507) none (vR 253) vN 0))
noncomputable def to255 (P : Params) : Obj := oT []
noncomputable def to256 (P : Params) : Obj := oF []
noncomputable def to257 (P : Params) : Obj := oT [(vS "number" 535)]
noncomputable def to258 (P : Params) : Obj := oT []
noncomputable def to259 (P : Params) : Obj := oO vN none (.func (fD (stA 38) (sS "show_end") (sS "show_end") (scS (stA 38)) 0 [] vN vN vN vN none vN vN 0))
noncomputable def to260 (P : Params) : Obj := oC [(vS "show_end" 532), (vS "show_end" 533), (vS "/claim/cut.py" 534), (vI 218), (vI 1), (vI 0), (vI 0), (vI 3), (vR 255), vT, (vI 181), (vR 256), vN, (vR 257), (vR 258), (vR 259), (vI 536), (vI 218), (vS "/claim/cut.py" 537)]
noncomputable def to261 (P : Params) : Obj := oO (.type "function") none (.func (fD (stA 38) (sS "show_end") (sS "show_end") (scS (stA 38)) 3 [] vN vN vN (vS "postkeep.sets" 507) none (vR 260) vN 0))
noncomputable def to262 (P : Params) : Obj := oT []
noncomputable def to263 (P : Params) : Obj := oF []
noncomputable def to264 (P : Params) : Obj := oT [(vS "pair" 542)]
noncomputable def to265 (P : Params) : Obj := oT []
noncomputable def to266 (P : Params) : Obj := oO vN none (.func (fD (stA 39) (sS "show_pair") (sS "show_pair") (scS (stA 39)) 0 [] vN vN vN vN none vN vN 0))
noncomputable def to267 (P : Params) : Obj := oC [(vS "show_pair" 539), (vS "show_pair" 540), (vS "/claim/cut.py" 541), (vI 222), (vI 1), (vI 0), (vI 0), (vI 3), (vR 262), vT, (vI 181), (vR 263), vN, (vR 264), (vR 265), (vR 266), (vI 543), (vI 222), (vS "/claim/cut.py" 544)]
noncomputable def to268 (P : Params) : Obj := oO (.type "function") none (.func (fD (stA 39) (sS "show_pair") (sS "show_pair") (scS (stA 39)) 3 [] vN vN vN (vS "postkeep.sets" 507) none (vR 267) vN 0))
noncomputable def to269 (P : Params) : Obj := oT []
noncomputable def to270 (P : Params) : Obj := oF []
noncomputable def to271 (P : Params) : Obj := oO vN none (.func (fD (stA 40) (sS "show_set") (sS "show_set") (scS (stA 40)) 0 [] vN vN vN vN none vN vN 0))
noncomputable def to272 (P : Params) : Obj := oC [(vS "show_set" 546), (vS "show_set" 547), (vS "/claim/cut.py" 548), (vI 226), (vI 1), (vI 0), (vI 0), (vI 3), (vR 269), vT, (vI 181), (vR 270), vN, vN, vN, (vR 271), (vI 549), (vI 226), (vS "/claim/cut.py" 550)]
noncomputable def to273 (P : Params) : Obj := oO (.type "function") none (.func (fD (stA 40) (sS "show_set") (sS "show_set") (scS (stA 40)) 3 [] vN vN vN (vS "postkeep.sets" 507) none (vR 272) vN 0))
noncomputable def to274 (P : Params) : Obj := oT []
noncomputable def to275 (P : Params) : Obj := oO (.type "builtin_function_or_method") none (.fields (Array.mk [(.builtin "type.__prepare__"), (.type "type")]))
noncomputable def to276 (P : Params) : Obj := oO (.type "dict") none (.dict (Array.mk [dE P "__module__" 577 (vS "postkeep.wire" 552), dE P "__qualname__" 579 (vS "Atom" 578), dE P "__firstlineno__" 581 (.int 237 580), dE P "__init__" 589 (vR 287), dE P "told" 596 (vR 294), dE P "__static_attributes__" 598 (vR 295)]) 6)
noncomputable def to277 (P : Params) : Obj := oT []
noncomputable def to278 (P : Params) : Obj := oF [(vI 239), (vI 4), (vR 286), (vI 242), (vI 4), (vR 293)]
noncomputable def to279 (P : Params) : Obj := oC [(vS "Atom" 572), (vS "Atom" 573), (vS "/claim/cut.py" 574), (vI 237), (vI 0), (vI 0), (vI 0), (vI 0), (vR 277), vF, (vI 181), (vR 278), vN, vN, vN, vN, (vI 575), (vI 237), (vS "/claim/cut.py" 576)]
noncomputable def to280 (P : Params) : Obj := Obj.mk (.type "frame") none .plain (Array.mk [(some (vR 279)), (some (vR 3)), (some (vR 276)), none, (some (vS "postkeep.wire" 552)), none, (some (vR 0))])
noncomputable def to281 (P : Params) : Obj := oT []
noncomputable def to282 (P : Params) : Obj := oF []
noncomputable def to283 (P : Params) : Obj := oT [(vS "self" 585), (vS "text" 586)]
noncomputable def to284 (P : Params) : Obj := oT []
noncomputable def to285 (P : Params) : Obj := oO vN none (.func (fD (stB 50 0) (sS "__init__") (sS "Atom.__init__") (scS (stB 50 0)) 0 [] vN vN vN vN none vN vN 0))
noncomputable def to286 (P : Params) : Obj := oC [(vS "__init__" 582), (vS "Atom.__init__" 583), (vS "/claim/cut.py" 584), (vI 239), (vI 2), (vI 0), (vI 0), (vI 3), (vR 281), vT, (vI 181), (vR 282), vN, (vR 283), (vR 284), (vR 285), (vI 587), (vI 239), (vS "/claim/cut.py" 588)]
noncomputable def to287 (P : Params) : Obj := oO (.type "function") none (.func (fD (stB 50 0) (sS "__init__") (sS "Atom.__init__") (scS (stB 50 0)) 3 [] vN vN vN (vS "postkeep.wire" 552) none (vR 286) vN 0))
noncomputable def to288 (P : Params) : Obj := oT []
noncomputable def to289 (P : Params) : Obj := oF []
noncomputable def to290 (P : Params) : Obj := oT [(vS "self" 593)]
noncomputable def to291 (P : Params) : Obj := oT []
noncomputable def to292 (P : Params) : Obj := oO vN none (.func (fD (stB 50 1) (sS "told") (sS "Atom.told") (scS (stB 50 1)) 0 [] vN vN vN vN none vN vN 0))
noncomputable def to293 (P : Params) : Obj := oC [(vS "told" 590), (vS "Atom.told" 591), (vS "/claim/cut.py" 592), (vI 242), (vI 1), (vI 0), (vI 0), (vI 3), (vR 288), vT, (vI 181), (vR 289), vN, (vR 290), (vR 291), (vR 292), (vI 594), (vI 242), (vS "/claim/cut.py" 595)]
noncomputable def to294 (P : Params) : Obj := oO (.type "function") none (.func (fD (stB 50 1) (sS "told") (sS "Atom.told") (scS (stB 50 1)) 3 [] vN vN vN (vS "postkeep.wire" 552) none (vR 293) vN 0))
noncomputable def to295 (P : Params) : Obj := oT [(vS "text" 597)]
noncomputable def to296 (P : Params) : Obj := oO (.type "dict") none (.dict (Array.mk [dE P "__module__" 577 (vS "postkeep.wire" 552), dE P "__firstlineno__" 581 (.int 237 580), dE P "__init__" 589 (vR 287), dE P "told" 596 (vR 294), dE P "__static_attributes__" 598 (vR 295), dE P "__dict__" 600 (vR 298), dE P "__weakref__" 602 (vR 299), dE P "__doc__" 603 vN]) 4)
noncomputable def to297 (P : Params) : Obj := Obj.mk (.type "type") none (.cls (cD (sS "Atom") [(.type "object")] [(vR 297), (.type "object")] 296 (sS "Atom") true [] [] false none false)) (Array.mk [none, none, (some (vS "Atom" 570)), (some (vS "Atom" 578)), (some (.builtin "object.__new__")), (some vT)])
noncomputable def to298 (P : Params) : Obj := oO (.type "getset_descriptor") none (.fields (Array.mk [(vS "__dict__" 599), (vR 297), (.builtin "function.__dict__"), (.builtin "function.__dict__#set")]))
noncomputable def to299 (P : Params) : Obj := oO (.type "getset_descriptor") none (.fields (Array.mk [(vS "__weakref__" 601), (vR 297), (.builtin "ExceptionGroup.__weakref__"), vN]))
noncomputable def to300 (P : Params) : Obj := oO (.type "super") none (.fields (Array.mk [(vR 297), (vR 297), (vR 297)]))
noncomputable def to301 (P : Params) : Obj := oO (.type "builtin_function_or_method") none (.fields (Array.mk [(.builtin "object.__init_subclass__"), (vR 297)]))
noncomputable def to302 (P : Params) : Obj := oT []
noncomputable def to303 (P : Params) : Obj := oF []
noncomputable def to304 (P : Params) : Obj := oT [(vS "code" 609)]
noncomputable def to305 (P : Params) : Obj := oT []
noncomputable def to306 (P : Params) : Obj := oO vN none (.func (fD (stA 51) (sS "is_printable") (sS "is_printable") (scS (stA 51)) 0 [] vN vN vN vN none vN vN 0))
noncomputable def to307 (P : Params) : Obj := oC [(vS "is_printable" 606), (vS "is_printable" 607), (vS "/claim/cut.py" 608), (vI 244), (vI 1), (vI 0), (vI 0), (vI 3), (vR 302), vT, (vI 181), (vR 303), vN, (vR 304), (vR 305), (vR 306), (vI 610), (vI 244), (vS "/claim/cut.py" 611)]
noncomputable def to308 (P : Params) : Obj := oO (.type "function") none (.func (fD (stA 51) (sS "is_printable") (sS "is_printable") (scS (stA 51)) 3 [] vN vN vN (vS "postkeep.wire" 552) none (vR 307) vN 0))
noncomputable def to309 (P : Params) : Obj := oT []
noncomputable def to310 (P : Params) : Obj := oF []
noncomputable def to311 (P : Params) : Obj := oT [(vS "code" 616)]
noncomputable def to312 (P : Params) : Obj := oT []
noncomputable def to313 (P : Params) : Obj := oO vN none (.func (fD (stA 52) (sS "is_atom_code") (sS "is_atom_code") (scS (stA 52)) 0 [] vN vN vN vN none vN vN 0))
noncomputable def to314 (P : Params) : Obj := oC [(vS "is_atom_code" 613), (vS "is_atom_code" 614), (vS "/claim/cut.py" 615), (vI 246), (vI 1), (vI 0), (vI 0), (vI 3), (vR 309), vT, (vI 181), (vR 310), vN, (vR 311), (vR 312), (vR 313), (vI 617), (vI 246), (vS "/claim/cut.py" 618)]
noncomputable def to315 (P : Params) : Obj := oO (.type "function") none (.func (fD (stA 52) (sS "is_atom_code") (sS "is_atom_code") (scS (stA 52)) 3 [] vN vN vN (vS "postkeep.wire" 552) none (vR 314) vN 0))
noncomputable def to316 (P : Params) : Obj := oT []
noncomputable def to317 (P : Params) : Obj := oF []
noncomputable def to318 (P : Params) : Obj := oT [(vS "code" 623)]
noncomputable def to319 (P : Params) : Obj := oT []
noncomputable def to320 (P : Params) : Obj := oO vN none (.func (fD (stA 53) (sS "is_astring_code") (sS "is_astring_code") (scS (stA 53)) 0 [] vN vN vN vN none vN vN 0))
noncomputable def to321 (P : Params) : Obj := oC [(vS "is_astring_code" 620), (vS "is_astring_code" 621), (vS "/claim/cut.py" 622), (vI 248), (vI 1), (vI 0), (vI 0), (vI 3), (vR 316), vT, (vI 181), (vR 317), vN, (vR 318), (vR 319), (vR 320), (vI 624), (vI 248), (vS "/claim/cut.py" 625)]
noncomputable def to322 (P : Params) : Obj := oO (.type "function") none (.func (fD (stA 53) (sS "is_astring_code") (sS "is_astring_code") (scS (stA 53)) 3 [] vN vN vN (vS "postkeep.wire" 552) none (vR 321) vN 0))
noncomputable def to323 (P : Params) : Obj := oT []
noncomputable def to324 (P : Params) : Obj := oF []
noncomputable def to325 (P : Params) : Obj := oT [(vS "code" 630)]
noncomputable def to326 (P : Params) : Obj := oT []
noncomputable def to327 (P : Params) : Obj := oO vN none (.func (fD (stA 54) (sS "is_tag_code") (sS "is_tag_code") (scS (stA 54)) 0 [] vN vN vN vN none vN vN 0))
noncomputable def to328 (P : Params) : Obj := oC [(vS "is_tag_code" 627), (vS "is_tag_code" 628), (vS "/claim/cut.py" 629), (vI 250), (vI 1), (vI 0), (vI 0), (vI 3), (vR 323), vT, (vI 181), (vR 324), vN, (vR 325), (vR 326), (vR 327), (vI 631), (vI 250), (vS "/claim/cut.py" 632)]
noncomputable def to329 (P : Params) : Obj := oO (.type "function") none (.func (fD (stA 54) (sS "is_tag_code") (sS "is_tag_code") (scS (stA 54)) 3 [] vN vN vN (vS "postkeep.wire" 552) none (vR 328) vN 0))
noncomputable def to330 (P : Params) : Obj := oT []
noncomputable def to331 (P : Params) : Obj := oF []
noncomputable def to332 (P : Params) : Obj := oT [(vS "code" 637)]
noncomputable def to333 (P : Params) : Obj := oT []
noncomputable def to334 (P : Params) : Obj := oO vN none (.func (fD (stA 55) (sS "is_value_code") (sS "is_value_code") (scS (stA 55)) 0 [] vN vN vN vN none vN vN 0))
noncomputable def to335 (P : Params) : Obj := oC [(vS "is_value_code" 634), (vS "is_value_code" 635), (vS "/claim/cut.py" 636), (vI 252), (vI 1), (vI 0), (vI 0), (vI 3), (vR 330), vT, (vI 181), (vR 331), vN, (vR 332), (vR 333), (vR 334), (vI 638), (vI 252), (vS "/claim/cut.py" 639)]
noncomputable def to336 (P : Params) : Obj := oO (.type "function") none (.func (fD (stA 55) (sS "is_value_code") (sS "is_value_code") (scS (stA 55)) 3 [] vN vN vN (vS "postkeep.wire" 552) none (vR 335) vN 0))
noncomputable def to337 (P : Params) : Obj := oT []
noncomputable def to338 (P : Params) : Obj := oF []
noncomputable def to339 (P : Params) : Obj := oT [(vS "code" 644)]
noncomputable def to340 (P : Params) : Obj := oT []
noncomputable def to341 (P : Params) : Obj := oO vN none (.func (fD (stA 56) (sS "is_set_code") (sS "is_set_code") (scS (stA 56)) 0 [] vN vN vN vN none vN vN 0))
noncomputable def to342 (P : Params) : Obj := oC [(vS "is_set_code" 641), (vS "is_set_code" 642), (vS "/claim/cut.py" 643), (vI 254), (vI 1), (vI 0), (vI 0), (vI 3), (vR 337), vT, (vI 181), (vR 338), vN, (vR 339), (vR 340), (vR 341), (vI 645), (vI 254), (vS "/claim/cut.py" 646)]
noncomputable def to343 (P : Params) : Obj := oO (.type "function") none (.func (fD (stA 56) (sS "is_set_code") (sS "is_set_code") (scS (stA 56)) 3 [] vN vN vN (vS "postkeep.wire" 552) none (vR 342) vN 0))
noncomputable def to344 (P : Params) : Obj := oT []
noncomputable def to345 (P : Params) : Obj := oF []
noncomputable def to346 (P : Params) : Obj := oT [(vS "code" 651)]
noncomputable def to347 (P : Params) : Obj := oT []
noncomputable def to348 (P : Params) : Obj := oO vN none (.func (fD (stA 57) (sS "is_figure") (sS "is_figure") (scS (stA 57)) 0 [] vN vN vN vN none vN vN 0))
noncomputable def to349 (P : Params) : Obj := oC [(vS "is_figure" 648), (vS "is_figure" 649), (vS "/claim/cut.py" 650), (vI 256), (vI 1), (vI 0), (vI 0), (vI 3), (vR 344), vT, (vI 181), (vR 345), vN, (vR 346), (vR 347), (vR 348), (vI 652), (vI 256), (vS "/claim/cut.py" 653)]
noncomputable def to350 (P : Params) : Obj := oO (.type "function") none (.func (fD (stA 57) (sS "is_figure") (sS "is_figure") (scS (stA 57)) 3 [] vN vN vN (vS "postkeep.wire" 552) none (vR 349) vN 0))
noncomputable def to351 (P : Params) : Obj := oT []
noncomputable def to352 (P : Params) : Obj := oF []
noncomputable def to353 (P : Params) : Obj := oT [(vS "octets" 658), (vS "number" 659), (vS "code" 660)]
noncomputable def to354 (P : Params) : Obj := oT []
noncomputable def to355 (P : Params) : Obj := oO vN none (.func (fD (stA 58) (sS "number_of_figures") (sS "number_of_figures") (scS (stA 58)) 0 [] vN vN vN vN none vN vN 0))
noncomputable def to356 (P : Params) : Obj := oC [(vS "number_of_figures" 655), (vS "number_of_figures" 656), (vS "/claim/cut.py" 657), (vI 258), (vI 1), (vI 0), (vI 0), (vI 3), (vR 351), vT, (vI 181), (vR 352), vN, (vR 353), (vR 354), (vR 355), (vI 661), (vI 258), (vS "/claim/cut.py" 662)]
noncomputable def to357 (P : Params) : Obj := oO (.type "function") none (.func (fD (stA 58) (sS "number_of_figures") (sS "number_of_figures") (scS (stA 58)) 3 [] vN vN vN (vS "postkeep.wire" 552) none (vR 356) vN 0))
noncomputable def to358 (P : Params) : Obj := oT []
noncomputable def to359 (P : Params) : Obj := oF []
noncomputable def to360 (P : Params) : Obj := oT [(vS "number" 667)]
noncomputable def to361 (P : Params) : Obj := oT []
noncomputable def to362 (P : Params) : Obj := oO vN none (.func (fD (stA 59) (sS "figures_of") (sS "figures_of") (scS (stA 59)) 0 [] vN vN vN vN none vN vN 0))
noncomputable def to363 (P : Params) : Obj := oC [(vS "figures_of" 664), (vS "figures_of" 665), (vS "/claim/cut.py" 666), (vI 263), (vI 1), (vI 0), (vI 0), (vI 3), (vR 358), vT, (vI 181), (vR 359), vN, (vR 360), (vR 361), (vR 362), (vI 668), (vI 263), (vS "/claim/cut.py" 669)]
noncomputable def to364 (P : Params) : Obj := oO (.type "function") none (.func (fD (stA 59) (sS "figures_of") (sS "figures_of") (scS (stA 59)) 3 [] vN vN vN (vS "postkeep.wire" 552) none (vR 363) vN 0))
noncomputable def to365 (P : Params) : Obj := oT []
noncomputable def to366 (P : Params) : Obj := oO (.type "builtin_function_or_method") none (.fields (Array.mk [(.builtin "type.__prepare__"), (.type "type")]))
noncomputable def to367 (P : Params) : Obj := oO (.type "dict") none (.dict (Array.mk [dE P "__module__" 678 (vS "postkeep.wire" 552), dE P "__qualname__" 680 (vS "Wire" 679), dE P "__firstlineno__" 682 (.int 267 681), dE P "__init__" 692 (vR 379), dE P "fault" 700 (vR 386), dE P "peek" 707 (vR 393), dE P "skip" 715 (vR 400), dE P "need" 724 (vR 407), dE P "space" 731 (vR 414), dE P "done" 738 (vR 421), dE P "run" 747 (vR 428), dE P "word_of" 757 (vR 435), dE P "atom" 764 (vR 442), dE P "word" 771 (vR 449), dE P "skip_word" 779 (vR 456), dE P "set_text" 786 (vR 463), dE P "flag" 793 (vR 470), dE P "number" 802 (vR 477), dE P "quoted" 810 (vR 484), dE P "literal" 820 (vR 491), dE P "string" 827 (vR 498), dE P "string_or" 836 (vR 505), dE P "astring" 843 (vR 512), dE P "pattern" 850 (vR 519), dE P "nstring" 857 (vR 526), dE P "list_of" 866 (vR 533), dE P "plain_value" 872 (vR 538), dE P "value" 882 (vR 546), dE P "__static_attributes__" 885 (vR 547)]) 29)
noncomputable def to368 (P : Params) : Obj := oT []
noncomputable def to369 (P : Params) : Obj := oF [(vI 269), (vI 4), (vR 378), (vI 273), (vI 4), (vR 385), (vI 276), (vI 4), (vR 392), (vI 279), (vI 4), (vR 399), (vI 285), (vI 4), (vR 406), (vI 289), (vI 4), (vR 413), (vI 292), (vI 4), (vR 420), (vI 297), (vI 4), (vR 427), (vI 303), (vI 4), (vR 434), (vI 309), (vI 4), (vR 441), (vI 312), (vI 4), (vR 448), (vI 315), (vI 4), (vR 455), (vI 318), (vI 4), (vR 462), (vI 321), (vI 4), (vR 469), (vI 324), (vI 4), (vR 476), (vI 331), (vI 4), (vR 483), (vI 346), (vI 4), (vR 490), (vI 360), (vI 4), (vR 497), (vI 363), (vI 4), (vR 504), (vI 371), (vI 4), (vR 511), (vI 374), (vI 4), (vR 518), (vI 377), (vI 4), (vR 525), (vI 380), (vI 4), (vR 532), (vI 391), (vI 4), (vR 537), (vI 404), (vI 4), (vR 545)]
noncomputable def to370 (P : Params) : Obj := oC [(vS "Wire" 673), (vS "Wire" 674), (vS "/claim/cut.py" 675), (vI 267), (vI 0), (vI 0), (vI 0), (vI 0), (vR 368), vF, (vI 181), (vR 369), vN, vN, vN, vN, (vI 676), (vI 267), (vS "/claim/cut.py" 677)]
noncomputable def to371 (P : Params) : Obj := Obj.mk (.type "frame") none .plain (Array.mk [(some (vR 370)), (some (vR 3)), (some (vR 367)), none, (some (vS "postkeep.wire" 552)), none, (some (vR 0))])
noncomputable def to372 (P : Params) : Obj := oT [(.int 0 683)]
noncomputable def to373 (P : Params) : Obj := oT []
noncomputable def to374 (P : Params) : Obj := oF []
noncomputable def to375 (P : Params) : Obj := oT [(vS "self" 687), (vS "data" 688), (vS "at" 689)]
noncomputable def to376 (P : Params) : Obj := oT []
noncomputable def to377 (P : Params) : Obj := oO vN none (.func (fD (stB 60 0) (sS "__init__") (sS "Wire.__init__") (scS (stB 60 0)) 0 [] vN vN vN vN none vN vN 0))
noncomputable def to378 (P : Params) : Obj := oC [(vS "__init__" 684), (vS "Wire.__init__" 685), (vS "/claim/cut.py" 686), (vI 269), (vI 3), (vI 0), (vI 0), (vI 3), (vR 373), vT, (vI 181), (vR 374), vN, (vR 375), (vR 376), (vR 377), (vI 690), (vI 269), (vS "/claim/cut.py" 691)]
noncomputable def to379 (P : Params) : Obj := oO (.type "function") none (.func (fD (stB 60 0) (sS "__init__") (sS "Wire.__init__") (scS (stB 60 0)) 3 [] (vR 372) vN vN (vS "postkeep.wire" 552) none (vR 378) vN 0))
noncomputable def to380 (P : Params) : Obj := oT []
noncomputable def to381 (P : Params) : Obj := oF []
noncomputable def to382 (P : Params) : Obj := oT [(vS "self" 696), (vS "what" 697)]
noncomputable def to383 (P : Params) : Obj := oT []
noncomputable def to384 (P : Params) : Obj := oO vN none (.func (fD (stB 60 1) (sS "fault") (sS "Wire.fault") (scS (stB 60 1)) 0 [] vN vN vN vN none vN vN 0))
noncomputable def to385 (P : Params) : Obj := oC [(vS "fault" 693), (vS "Wire.fault" 694), (vS "/claim/cut.py" 695), (vI 273), (vI 2), (vI 0), (vI 0), (vI 3), (vR 380), vT, (vI 181), (vR 381), vN, (vR 382), (vR 383), (vR 384), (vI 698), (vI 273), (vS "/claim/cut.py" 699)]
noncomputable def to386 (P : Params) : Obj := oO (.type "function") none (.func (fD (stB 60 1) (sS "fault") (sS "Wire.fault") (scS (stB 60 1)) 3 [] vN vN vN (vS "postkeep.wire" 552) none (vR 385) vN 0))
noncomputable def to387 (P : Params) : Obj := oT []
noncomputable def to388 (P : Params) : Obj := oF []
noncomputable def to389 (P : Params) : Obj := oT [(vS "self" 704)]
noncomputable def to390 (P : Params) : Obj := oT []
noncomputable def to391 (P : Params) : Obj := oO vN none (.func (fD (stB 60 2) (sS "peek") (sS "Wire.peek") (scS (stB 60 2)) 0 [] vN vN vN vN none vN vN 0))
noncomputable def to392 (P : Params) : Obj := oC [(vS "peek" 701), (vS "Wire.peek" 702), (vS "/claim/cut.py" 703), (vI 276), (vI 1), (vI 0), (vI 0), (vI 3), (vR 387), vT, (vI 181), (vR 388), vN, (vR 389), (vR 390), (vR 391), (vI 705), (vI 276), (vS "/claim/cut.py" 706)]
noncomputable def to393 (P : Params) : Obj := oO (.type "function") none (.func (fD (stB 60 2) (sS "peek") (sS "Wire.peek") (scS (stB 60 2)) 3 [] vN vN vN (vS "postkeep.wire" 552) none (vR 392) vN 0))
noncomputable def to394 (P : Params) : Obj := oT []
noncomputable def to395 (P : Params) : Obj := oF []
noncomputable def to396 (P : Params) : Obj := oT [(vS "self" 711), (vS "octets" 712)]
noncomputable def to397 (P : Params) : Obj := oT []
noncomputable def to398 (P : Params) : Obj := oO vN none (.func (fD (stB 60 3) (sS "skip") (sS "Wire.skip") (scS (stB 60 3)) 0 [] vN vN vN vN none vN vN 0))
noncomputable def to399 (P : Params) : Obj := oC [(vS "skip" 708), (vS "Wire.skip" 709), (vS "/claim/cut.py" 710), (vI 279), (vI 2), (vI 0), (vI 0), (vI 3), (vR 394), vT, (vI 181), (vR 395), vN, (vR 396), (vR 397), (vR 398), (vI 713), (vI 279), (vS "/claim/cut.py" 714)]
noncomputable def to400 (P : Params) : Obj := oO (.type "function") none (.func (fD (stB 60 3) (sS "skip") (sS "Wire.skip") (scS (stB 60 3)) 3 [] vN vN vN (vS "postkeep.wire" 552) none (vR 399) vN 0))
noncomputable def to401 (P : Params) : Obj := oT []
noncomputable def to402 (P : Params) : Obj := oF []
noncomputable def to403 (P : Params) : Obj := oT [(vS "self" 719), (vS "octets" 720), (vS "what" 721)]
noncomputable def to404 (P : Params) : Obj := oT []
noncomputable def to405 (P : Params) : Obj := oO vN none (.func (fD (stB 60 4) (sS "need") (sS "Wire.need") (scS (stB 60 4)) 0 [] vN vN vN vN none vN vN 0))
noncomputable def to406 (P : Params) : Obj := oC [(vS "need" 716), (vS "Wire.need" 717), (vS "/claim/cut.py" 718), (vI 285), (vI 3), (vI 0), (vI 0), (vI 3), (vR 401), vT, (vI 181), (vR 402), vN, (vR 403), (vR 404), (vR 405), (vI 722), (vI 285), (vS "/claim/cut.py" 723)]
noncomputable def to407 (P : Params) : Obj := oO (.type "function") none (.func (fD (stB 60 4) (sS "need") (sS "Wire.need") (scS (stB 60 4)) 3 [] vN vN vN (vS "postkeep.wire" 552) none (vR 406) vN 0))
noncomputable def to408 (P : Params) : Obj := oT []
noncomputable def to409 (P : Params) : Obj := oF []
noncomputable def to410 (P : Params) : Obj := oT [(vS "self" 728)]
noncomputable def to411 (P : Params) : Obj := oT []
noncomputable def to412 (P : Params) : Obj := oO vN none (.func (fD (stB 60 5) (sS "space") (sS "Wire.space") (scS (stB 60 5)) 0 [] vN vN vN vN none vN vN 0))
noncomputable def to413 (P : Params) : Obj := oC [(vS "space" 725), (vS "Wire.space" 726), (vS "/claim/cut.py" 727), (vI 289), (vI 1), (vI 0), (vI 0), (vI 3), (vR 408), vT, (vI 181), (vR 409), vN, (vR 410), (vR 411), (vR 412), (vI 729), (vI 289), (vS "/claim/cut.py" 730)]
noncomputable def to414 (P : Params) : Obj := oO (.type "function") none (.func (fD (stB 60 5) (sS "space") (sS "Wire.space") (scS (stB 60 5)) 3 [] vN vN vN (vS "postkeep.wire" 552) none (vR 413) vN 0))
noncomputable def to415 (P : Params) : Obj := oT []
noncomputable def to416 (P : Params) : Obj := oF []
noncomputable def to417 (P : Params) : Obj := oT [(vS "self" 735)]
noncomputable def to418 (P : Params) : Obj := oT []
noncomputable def to419 (P : Params) : Obj := oO vN none (.func (fD (stB 60 6) (sS "done") (sS "Wire.done") (scS (stB 60 6)) 0 [] vN vN vN vN none vN vN 0))
noncomputable def to420 (P : Params) : Obj := oC [(vS "done" 732), (vS "Wire.done" 733), (vS "/claim/cut.py" 734), (vI 292), (vI 1), (vI 0), (vI 0), (vI 3), (vR 415), vT, (vI 181), (vR 416), vN, (vR 417), (vR 418), (vR 419), (vI 736), (vI 292), (vS "/claim/cut.py" 737)]
noncomputable def to421 (P : Params) : Obj := oO (.type "function") none (.func (fD (stB 60 6) (sS "done") (sS "Wire.done") (scS (stB 60 6)) 3 [] vN vN vN (vS "postkeep.wire" 552) none (vR 420) vN 0))
noncomputable def to422 (P : Params) : Obj := oT []
noncomputable def to423 (P : Params) : Obj := oF []
noncomputable def to424 (P : Params) : Obj := oT [(vS "self" 742), (vS "fits" 743), (vS "first" 744)]
noncomputable def to425 (P : Params) : Obj := oT []
noncomputable def to426 (P : Params) : Obj := oO vN none (.func (fD (stB 60 7) (sS "run") (sS "Wire.run") (scS (stB 60 7)) 0 [] vN vN vN vN none vN vN 0))
noncomputable def to427 (P : Params) : Obj := oC [(vS "run" 739), (vS "Wire.run" 740), (vS "/claim/cut.py" 741), (vI 297), (vI 2), (vI 0), (vI 0), (vI 3), (vR 422), vT, (vI 181), (vR 423), vN, (vR 424), (vR 425), (vR 426), (vI 745), (vI 297), (vS "/claim/cut.py" 746)]
noncomputable def to428 (P : Params) : Obj := oO (.type "function") none (.func (fD (stB 60 7) (sS "run") (sS "Wire.run") (scS (stB 60 7)) 3 [] vN vN vN (vS "postkeep.wire" 552) none (vR 427) vN 0))
noncomputable def to429 (P : Params) : Obj := oT []
noncomputable def to430 (P : Params) : Obj := oF []
noncomputable def to431 (P : Params) : Obj := oT [(vS "self" 751), (vS "fits" 752), (vS "what" 753), (vS "octets" 754)]
noncomputable def to432 (P : Params) : Obj := oT []
noncomputable def to433 (P : Params) : Obj := oO vN none (.func (fD (stB 60 8) (sS "word_of") (sS "Wire.word_of") (scS (stB 60 8)) 0 [] vN vN vN vN none vN vN 0))
noncomputable def to434 (P : Params) : Obj := oC [(vS "word_of" 748), (vS "Wire.word_of" 749), (vS "/claim/cut.py" 750), (vI 303), (vI 3), (vI 0), (vI 0), (vI 3), (vR 429), vT, (vI 181), (vR 430), vN, (vR 431), (vR 432), (vR 433), (vI 755), (vI 303), (vS "/claim/cut.py" 756)]
noncomputable def to435 (P : Params) : Obj := oO (.type "function") none (.func (fD (stB 60 8) (sS "word_of") (sS "Wire.word_of") (scS (stB 60 8)) 3 [] vN vN vN (vS "postkeep.wire" 552) none (vR 434) vN 0))
noncomputable def to436 (P : Params) : Obj := oT []
noncomputable def to437 (P : Params) : Obj := oF []
noncomputable def to438 (P : Params) : Obj := oT [(vS "self" 761)]
noncomputable def to439 (P : Params) : Obj := oT []
noncomputable def to440 (P : Params) : Obj := oO vN none (.func (fD (stB 60 9) (sS "atom") (sS "Wire.atom") (scS (stB 60 9)) 0 [] vN vN vN vN none vN vN 0))
noncomputable def to441 (P : Params) : Obj := oC [(vS "atom" 758), (vS "Wire.atom" 759), (vS "/claim/cut.py" 760), (vI 309), (vI 1), (vI 0), (vI 0), (vI 3), (vR 436), vT, (vI 181), (vR 437), vN, (vR 438), (vR 439), (vR 440), (vI 762), (vI 309), (vS "/claim/cut.py" 763)]
noncomputable def to442 (P : Params) : Obj := oO (.type "function") none (.func (fD (stB 60 9) (sS "atom") (sS "Wire.atom") (scS (stB 60 9)) 3 [] vN vN vN (vS "postkeep.wire" 552) none (vR 441) vN 0))
noncomputable def to443 (P : Params) : Obj := oT []
noncomputable def to444 (P : Params) : Obj := oF []
noncomputable def to445 (P : Params) : Obj := oT [(vS "self" 768)]
noncomputable def to446 (P : Params) : Obj := oT []
noncomputable def to447 (P : Params) : Obj := oO vN none (.func (fD (stB 60 10) (sS "word") (sS "Wire.word") (scS (stB 60 10)) 0 [] vN vN vN vN none vN vN 0))
noncomputable def to448 (P : Params) : Obj := oC [(vS "word" 765), (vS "Wire.word" 766), (vS "/claim/cut.py" 767), (vI 312), (vI 1), (vI 0), (vI 0), (vI 3), (vR 443), vT, (vI 181), (vR 444), vN, (vR 445), (vR 446), (vR 447), (vI 769), (vI 312), (vS "/claim/cut.py" 770)]
noncomputable def to449 (P : Params) : Obj := oO (.type "function") none (.func (fD (stB 60 10) (sS "word") (sS "Wire.word") (scS (stB 60 10)) 3 [] vN vN vN (vS "postkeep.wire" 552) none (vR 448) vN 0))
noncomputable def to450 (P : Params) : Obj := oT []
noncomputable def to451 (P : Params) : Obj := oF []
noncomputable def to452 (P : Params) : Obj := oT [(vS "self" 775), (vS "text" 776)]
noncomputable def to453 (P : Params) : Obj := oT []
noncomputable def to454 (P : Params) : Obj := oO vN none (.func (fD (stB 60 11) (sS "skip_word") (sS "Wire.skip_word") (scS (stB 60 11)) 0 [] vN vN vN vN none vN vN 0))
noncomputable def to455 (P : Params) : Obj := oC [(vS "skip_word" 772), (vS "Wire.skip_word" 773), (vS "/claim/cut.py" 774), (vI 315), (vI 2), (vI 0), (vI 0), (vI 3), (vR 450), vT, (vI 181), (vR 451), vN, (vR 452), (vR 453), (vR 454), (vI 777), (vI 315), (vS "/claim/cut.py" 778)]
noncomputable def to456 (P : Params) : Obj := oO (.type "function") none (.func (fD (stB 60 11) (sS "skip_word") (sS "Wire.skip_word") (scS (stB 60 11)) 3 [] vN vN vN (vS "postkeep.wire" 552) none (vR 455) vN 0))
noncomputable def to457 (P : Params) : Obj := oT []
noncomputable def to458 (P : Params) : Obj := oF []
noncomputable def to459 (P : Params) : Obj := oT [(vS "self" 783)]
noncomputable def to460 (P : Params) : Obj := oT []
noncomputable def to461 (P : Params) : Obj := oO vN none (.func (fD (stB 60 12) (sS "set_text") (sS "Wire.set_text") (scS (stB 60 12)) 0 [] vN vN vN vN none vN vN 0))
noncomputable def to462 (P : Params) : Obj := oC [(vS "set_text" 780), (vS "Wire.set_text" 781), (vS "/claim/cut.py" 782), (vI 318), (vI 1), (vI 0), (vI 0), (vI 3), (vR 457), vT, (vI 181), (vR 458), vN, (vR 459), (vR 460), (vR 461), (vI 784), (vI 318), (vS "/claim/cut.py" 785)]
noncomputable def to463 (P : Params) : Obj := oO (.type "function") none (.func (fD (stB 60 12) (sS "set_text") (sS "Wire.set_text") (scS (stB 60 12)) 3 [] vN vN vN (vS "postkeep.wire" 552) none (vR 462) vN 0))
noncomputable def to464 (P : Params) : Obj := oT []
noncomputable def to465 (P : Params) : Obj := oF []
noncomputable def to466 (P : Params) : Obj := oT [(vS "self" 790)]
noncomputable def to467 (P : Params) : Obj := oT []
noncomputable def to468 (P : Params) : Obj := oO vN none (.func (fD (stB 60 13) (sS "flag") (sS "Wire.flag") (scS (stB 60 13)) 0 [] vN vN vN vN none vN vN 0))
noncomputable def to469 (P : Params) : Obj := oC [(vS "flag" 787), (vS "Wire.flag" 788), (vS "/claim/cut.py" 789), (vI 321), (vI 1), (vI 0), (vI 0), (vI 3), (vR 464), vT, (vI 181), (vR 465), vN, (vR 466), (vR 467), (vR 468), (vI 791), (vI 321), (vS "/claim/cut.py" 792)]
noncomputable def to470 (P : Params) : Obj := oO (.type "function") none (.func (fD (stB 60 13) (sS "flag") (sS "Wire.flag") (scS (stB 60 13)) 3 [] vN vN vN (vS "postkeep.wire" 552) none (vR 469) vN 0))
noncomputable def to471 (P : Params) : Obj := oT []
noncomputable def to472 (P : Params) : Obj := oF []
noncomputable def to473 (P : Params) : Obj := oT [(vS "self" 797), (vS "first" 798), (vS "octets" 799)]
noncomputable def to474 (P : Params) : Obj := oT []
noncomputable def to475 (P : Params) : Obj := oO vN none (.func (fD (stB 60 14) (sS "number") (sS "Wire.number") (scS (stB 60 14)) 0 [] vN vN vN vN none vN vN 0))
noncomputable def to476 (P : Params) : Obj := oC [(vS "number" 794), (vS "Wire.number" 795), (vS "/claim/cut.py" 796), (vI 324), (vI 1), (vI 0), (vI 0), (vI 3), (vR 471), vT, (vI 181), (vR 472), vN, (vR 473), (vR 474), (vR 475), (vI 800), (vI 324), (vS "/claim/cut.py" 801)]
noncomputable def to477 (P : Params) : Obj := oO (.type "function") none (.func (fD (stB 60 14) (sS "number") (sS "Wire.number") (scS (stB 60 14)) 3 [] vN vN vN (vS "postkeep.wire" 552) none (vR 476) vN 0))
noncomputable def to478 (P : Params) : Obj := oT []
noncomputable def to479 (P : Params) : Obj := oF []
noncomputable def to480 (P : Params) : Obj := oT [(vS "self" 806), (vS "found" 807)]
noncomputable def to481 (P : Params) : Obj := oT []
noncomputable def to482 (P : Params) : Obj := oO vN none (.func (fD (stB 60 15) (sS "quoted") (sS "Wire.quoted") (scS (stB 60 15)) 0 [] vN vN vN vN none vN vN 0))
noncomputable def to483 (P : Params) : Obj := oC [(vS "quoted" 803), (vS "Wire.quoted" 804), (vS "/claim/cut.py" 805), (vI 331), (vI 1), (vI 0), (vI 0), (vI 3), (vR 478), vT, (vI 181), (vR 479), vN, (vR 480), (vR 481), (vR 482), (vI 808), (vI 331), (vS "/claim/cut.py" 809)]
noncomputable def to484 (P : Params) : Obj := oO (.type "function") none (.func (fD (stB 60 15) (sS "quoted") (sS "Wire.quoted") (scS (stB 60 15)) 3 [] vN vN vN (vS "postkeep.wire" 552) none (vR 483) vN 0))
noncomputable def to485 (P : Params) : Obj := oT []
noncomputable def to486 (P : Params) : Obj := oF []
noncomputable def to487 (P : Params) : Obj := oT [(vS "self" 814), (vS "octets" 815), (vS "end" 816), (vS "found" 817)]
noncomputable def to488 (P : Params) : Obj := oT []
noncomputable def to489 (P : Params) : Obj := oO vN none (.func (fD (stB 60 16) (sS "literal") (sS "Wire.literal") (scS (stB 60 16)) 0 [] vN vN vN vN none vN vN 0))
noncomputable def to490 (P : Params) : Obj := oC [(vS "literal" 811), (vS "Wire.literal" 812), (vS "/claim/cut.py" 813), (vI 346), (vI 1), (vI 0), (vI 0), (vI 3), (vR 485), vT, (vI 181), (vR 486), vN, (vR 487), (vR 488), (vR 489), (vI 818), (vI 346), (vS "/claim/cut.py" 819)]
noncomputable def to491 (P : Params) : Obj := oO (.type "function") none (.func (fD (stB 60 16) (sS "literal") (sS "Wire.literal") (scS (stB 60 16)) 3 [] vN vN vN (vS "postkeep.wire" 552) none (vR 490) vN 0))
noncomputable def to492 (P : Params) : Obj := oT []
noncomputable def to493 (P : Params) : Obj := oF []
noncomputable def to494 (P : Params) : Obj := oT [(vS "self" 824)]
noncomputable def to495 (P : Params) : Obj := oT []
noncomputable def to496 (P : Params) : Obj := oO vN none (.func (fD (stB 60 17) (sS "string") (sS "Wire.string") (scS (stB 60 17)) 0 [] vN vN vN vN none vN vN 0))
noncomputable def to497 (P : Params) : Obj := oC [(vS "string" 821), (vS "Wire.string" 822), (vS "/claim/cut.py" 823), (vI 360), (vI 1), (vI 0), (vI 0), (vI 3), (vR 492), vT, (vI 181), (vR 493), vN, (vR 494), (vR 495), (vR 496), (vI 825), (vI 360), (vS "/claim/cut.py" 826)]
noncomputable def to498 (P : Params) : Obj := oO (.type "function") none (.func (fD (stB 60 17) (sS "string") (sS "Wire.string") (scS (stB 60 17)) 3 [] vN vN vN (vS "postkeep.wire" 552) none (vR 497) vN 0))
noncomputable def to499 (P : Params) : Obj := oT []
noncomputable def to500 (P : Params) : Obj := oF []
noncomputable def to501 (P : Params) : Obj := oT [(vS "self" 831), (vS "fits" 832), (vS "octets" 833)]
noncomputable def to502 (P : Params) : Obj := oT []
noncomputable def to503 (P : Params) : Obj := oO vN none (.func (fD (stB 60 18) (sS "string_or") (sS "Wire.string_or") (scS (stB 60 18)) 0 [] vN vN vN vN none vN vN 0))
noncomputable def to504 (P : Params) : Obj := oC [(vS "string_or" 828), (vS "Wire.string_or" 829), (vS "/claim/cut.py" 830), (vI 363), (vI 2), (vI 0), (vI 0), (vI 3), (vR 499), vT, (vI 181), (vR 500), vN, (vR 501), (vR 502), (vR 503), (vI 834), (vI 363), (vS "/claim/cut.py" 835)]
noncomputable def to505 (P : Params) : Obj := oO (.type "function") none (.func (fD (stB 60 18) (sS "string_or") (sS "Wire.string_or") (scS (stB 60 18)) 3 [] vN vN vN (vS "postkeep.wire" 552) none (vR 504) vN 0))
noncomputable def to506 (P : Params) : Obj := oT []
noncomputable def to507 (P : Params) : Obj := oF []
noncomputable def to508 (P : Params) : Obj := oT [(vS "self" 840)]
noncomputable def to509 (P : Params) : Obj := oT []
noncomputable def to510 (P : Params) : Obj := oO vN none (.func (fD (stB 60 19) (sS "astring") (sS "Wire.astring") (scS (stB 60 19)) 0 [] vN vN vN vN none vN vN 0))
noncomputable def to511 (P : Params) : Obj := oC [(vS "astring" 837), (vS "Wire.astring" 838), (vS "/claim/cut.py" 839), (vI 371), (vI 1), (vI 0), (vI 0), (vI 3), (vR 506), vT, (vI 181), (vR 507), vN, (vR 508), (vR 509), (vR 510), (vI 841), (vI 371), (vS "/claim/cut.py" 842)]
noncomputable def to512 (P : Params) : Obj := oO (.type "function") none (.func (fD (stB 60 19) (sS "astring") (sS "Wire.astring") (scS (stB 60 19)) 3 [] vN vN vN (vS "postkeep.wire" 552) none (vR 511) vN 0))
noncomputable def to513 (P : Params) : Obj := oT []
noncomputable def to514 (P : Params) : Obj := oF []
noncomputable def to515 (P : Params) : Obj := oT [(vS "self" 847)]
noncomputable def to516 (P : Params) : Obj := oT []
noncomputable def to517 (P : Params) : Obj := oO vN none (.func (fD (stB 60 20) (sS "pattern") (sS "Wire.pattern") (scS (stB 60 20)) 0 [] vN vN vN vN none vN vN 0))
noncomputable def to518 (P : Params) : Obj := oC [(vS "pattern" 844), (vS "Wire.pattern" 845), (vS "/claim/cut.py" 846), (vI 374), (vI 1), (vI 0), (vI 0), (vI 3), (vR 513), vT, (vI 181), (vR 514), vN, (vR 515), (vR 516), (vR 517), (vI 848), (vI 374), (vS "/claim/cut.py" 849)]
noncomputable def to519 (P : Params) : Obj := oO (.type "function") none (.func (fD (stB 60 20) (sS "pattern") (sS "Wire.pattern") (scS (stB 60 20)) 3 [] vN vN vN (vS "postkeep.wire" 552) none (vR 518) vN 0))
noncomputable def to520 (P : Params) : Obj := oT []
noncomputable def to521 (P : Params) : Obj := oF []
noncomputable def to522 (P : Params) : Obj := oT [(vS "self" 854)]
noncomputable def to523 (P : Params) : Obj := oT []
noncomputable def to524 (P : Params) : Obj := oO vN none (.func (fD (stB 60 21) (sS "nstring") (sS "Wire.nstring") (scS (stB 60 21)) 0 [] vN vN vN vN none vN vN 0))
noncomputable def to525 (P : Params) : Obj := oC [(vS "nstring" 851), (vS "Wire.nstring" 852), (vS "/claim/cut.py" 853), (vI 377), (vI 1), (vI 0), (vI 0), (vI 3), (vR 520), vT, (vI 181), (vR 521), vN, (vR 522), (vR 523), (vR 524), (vI 855), (vI 377), (vS "/claim/cut.py" 856)]
noncomputable def to526 (P : Params) : Obj := oO (.type "function") none (.func (fD (stB 60 21) (sS "nstring") (sS "Wire.nstring") (scS (stB 60 21)) 3 [] vN vN vN (vS "postkeep.wire" 552) none (vR 525) vN 0))
noncomputable def to527 (P : Params) : Obj := oT []
noncomputable def to528 (P : Params) : Obj := oF []
noncomputable def to529 (P : Params) : Obj := oT [(vS "self" 861), (vS "read" 862), (vS "found" 863)]
noncomputable def to530 (P : Params) : Obj := oT []
noncomputable def to531 (P : Params) : Obj := oO vN none (.func (fD (stB 60 22) (sS "list_of") (sS "Wire.list_of") (scS (stB 60 22)) 0 [] vN vN vN vN none vN vN 0))
noncomputable def to532 (P : Params) : Obj := oC [(vS "list_of" 858), (vS "Wire.list_of" 859), (vS "/claim/cut.py" 860), (vI 380), (vI 2), (vI 0), (vI 0), (vI 3), (vR 527), vT, (vI 181), (vR 528), vN, (vR 529), (vR 530), (vR 531), (vI 864), (vI 380), (vS "/claim/cut.py" 865)]
noncomputable def to533 (P : Params) : Obj := oO (.type "function") none (.func (fD (stB 60 22) (sS "list_of") (sS "Wire.list_of") (scS (stB 60 22)) 3 [] vN vN vN (vS "postkeep.wire" 552) none (vR 532) vN 0))
noncomputable def to534 (P : Params) : Obj := oT []
noncomputable def to535 (P : Params) : Obj := oF []
noncomputable def to536 (P : Params) : Obj := oO vN none (.func (fD (stB 60 23) (sS "plain_value") (sS "Wire.plain_value") (scS (stB 60 23)) 0 [] vN vN vN vN none vN vN 0))
noncomputable def to537 (P : Params) : Obj := oC [(vS "plain_value" 867), (vS "Wire.plain_value" 868), (vS "/claim/cut.py" 869), (vI 391), (vI 1), (vI 0), (vI 0), (vI 3), (vR 534), vT, (vI 181), (vR 535), vN, vN, vN, (vR 536), (vI 870), (vI 391), (vS "/claim/cut.py" 871)]
noncomputable def to538 (P : Params) : Obj := oO (.type "function") none (.func (fD (stB 60 23) (sS "plain_value") (sS "Wire.plain_value") (scS (stB 60 23)) 3 [] vN vN vN (vS "postkeep.wire" 552) none (vR 537) vN 0))
noncomputable def to539 (P : Params) : Obj := oT [(.int 0 873)]
noncomputable def to540 (P : Params) : Obj := oT []
noncomputable def to541 (P : Params) : Obj := oF []
noncomputable def to542 (P : Params) : Obj := oT [(vS "self" 877), (vS "depth" 878), (vS "found" 879)]
noncomputable def to543 (P : Params) : Obj := oT []
noncomputable def to544 (P : Params) : Obj := oO vN none (.func (fD (stB 60 24) (sS "value") (sS "Wire.value") (scS (stB 60 24)) 0 [] vN vN vN vN none vN vN 0))
noncomputable def to545 (P : Params) : Obj := oC [(vS "value" 874), (vS "Wire.value" 875), (vS "/claim/cut.py" 876), (vI 404), (vI 2), (vI 0), (vI 0), (vI 3), (vR 540), vT, (vI 181), (vR 541), vN, (vR 542), (vR 543), (vR 544), (vI 880), (vI 404), (vS "/claim/cut.py" 881)]
noncomputable def to546 (P : Params) : Obj := oO (.type "function") none (.func (fD (stB 60 24) (sS "value") (sS "Wire.value") (scS (stB 60 24)) 3 [] (vR 539) vN vN (vS "postkeep.wire" 552) none (vR 545) vN 0))
noncomputable def to547 (P : Params) : Obj := oT [(vS "at" 883), (vS "data" 884)]
noncomputable def to548 (P : Params) : Obj := oO (.type "dict") none (.dict (Array.mk [dE P "__module__" 678 (vS "postkeep.wire" 552), dE P "__firstlineno__" 682 (.int 267 681), dE P "__init__" 692 (vR 379), dE P "fault" 700 (vR 386), dE P "peek" 707 (vR 393), dE P "skip" 715 (vR 400), dE P "need" 724 (vR 407), dE P "space" 731 (vR 414), dE P "done" 738 (vR 421), dE P "run" 747 (vR 428), dE P "word_of" 757 (vR 435), dE P "atom" 764 (vR 442), dE P "word" 771 (vR 449), dE P "skip_word" 779 (vR 456), dE P "set_text" 786 (vR 463), dE P "flag" 793 (vR 470), dE P "number" 802 (vR 477), dE P "quoted" 810 (vR 484), dE P "literal" 820 (vR 491), dE P "string" 827 (vR 498), dE P "string_or" 836 (vR 505), dE P "astring" 843 (vR 512), dE P "pattern" 850 (vR 519), dE P "nstring" 857 (vR 526), dE P "list_of" 866 (vR 533), dE P "plain_value" 872 (vR 538), dE P "value" 882 (vR 546), dE P "__static_attributes__" 885 (vR 547), dE P "__dict__" 887 (vR 550), dE P "__weakref__" 889 (vR 551), dE P "__doc__" 890 vN]) 4)
noncomputable def to549 (P : Params) : Obj := Obj.mk (.type "type") none (.cls (cD (sS "Wire") [(.type "object")] [(vR 549), (.type "object")] 548 (sS "Wire") true [] [] false none false)) (Array.mk [none, none, (some (vS "Wire" 671)), (some (vS "Wire" 679)), (some (.builtin "object.__new__")), (some vT)])
noncomputable def to550 (P : Params) : Obj := oO (.type "getset_descriptor") none (.fields (Array.mk [(vS "__dict__" 886), (vR 549), (.builtin "function.__dict__"), (.builtin "function.__dict__#set")]))
noncomputable def to551 (P : Params) : Obj := oO (.type "getset_descriptor") none (.fields (Array.mk [(vS "__weakref__" 888), (vR 549), (.builtin "ExceptionGroup.__weakref__"), vN]))
noncomputable def to552 (P : Params) : Obj := oO (.type "super") none (.fields (Array.mk [(vR 549), (vR 549), (vR 549)]))
noncomputable def to553 (P : Params) : Obj := oO (.type "builtin_function_or_method") none (.fields (Array.mk [(.builtin "object.__init_subclass__"), (vR 549)]))
noncomputable def to554 (P : Params) : Obj := oT []
noncomputable def to555 (P : Params) : Obj := oF []
noncomputable def to556 (P : Params) : Obj := oO vN none (.func (fD (stA 61) (sS "is_quotable") (sS "is_quotable") (scS (stA 61)) 0 [] vN vN vN vN none vN vN 0))
noncomputable def to557 (P : Params) : Obj := oC [(vS "is_quotable" 893), (vS "is_quotable" 894), (vS "/claim/cut.py" 895), (vI 418), (vI 1), (vI 0), (vI 0), (vI 3), (vR 554), vT, (vI 181), (vR 555), vN, vN, vN, (vR 556), (vI 896), (vI 418), (vS "/claim/cut.py" 897)]
noncomputable def to558 (P : Params) : Obj := oO (.type "function") none (.func (fD (stA 61) (sS "is_quotable") (sS "is_quotable") (scS (stA 61)) 3 [] vN vN vN (vS "postkeep.wire" 552) none (vR 557) vN 0))
noncomputable def to559 (P : Params) : Obj := oT []
noncomputable def to560 (P : Params) : Obj := oF []
noncomputable def to561 (P : Params) : Obj := oT [(vS "octets" 902), (vS "found" 903), (vS "code" 904)]
noncomputable def to562 (P : Params) : Obj := oT []
noncomputable def to563 (P : Params) : Obj := oO vN none (.func (fD (stA 62) (sS "quoted_octets") (sS "quoted_octets") (scS (stA 62)) 0 [] vN vN vN vN none vN vN 0))
noncomputable def to564 (P : Params) : Obj := oC [(vS "quoted_octets" 899), (vS "quoted_octets" 900), (vS "/claim/cut.py" 901), (vI 420), (vI 1), (vI 0), (vI 0), (vI 3), (vR 559), vT, (vI 181), (vR 560), vN, (vR 561), (vR 562), (vR 563), (vI 905), (vI 420), (vS "/claim/cut.py" 906)]
noncomputable def to565 (P : Params) : Obj := oO (.type "function") none (.func (fD (stA 62) (sS "quoted_octets") (sS "quoted_octets") (scS (stA 62)) 3 [] vN vN vN (vS "postkeep.wire" 552) none (vR 564) vN 0))
noncomputable def to566 (P : Params) : Obj := oT [vF]
noncomputable def to567 (P : Params) : Obj := oT []
noncomputable def to568 (P : Params) : Obj := oF []
noncomputable def to569 (P : Params) : Obj := oT [(vS "octets" 911), (vS "is_plus" 912)]
noncomputable def to570 (P : Params) : Obj := oT []
noncomputable def to571 (P : Params) : Obj := oO vN none (.func (fD (stA 63) (sS "literal_octets") (sS "literal_octets") (scS (stA 63)) 0 [] vN vN vN vN none vN vN 0))
noncomputable def to572 (P : Params) : Obj := oC [(vS "literal_octets" 908), (vS "literal_octets" 909), (vS "/claim/cut.py" 910), (vI 428), (vI 2), (vI 0), (vI 0), (vI 3), (vR 567), vT, (vI 181), (vR 568), vN, (vR 569), (vR 570), (vR 571), (vI 913), (vI 428), (vS "/claim/cut.py" 914)]
noncomputable def to573 (P : Params) : Obj := oO (.type "function") none (.func (fD (stA 63) (sS "literal_octets") (sS "literal_octets") (scS (stA 63)) 3 [] (vR 566) vN vN (vS "postkeep.wire" 552) none (vR 572) vN 0))
noncomputable def to574 (P : Params) : Obj := oT [vF]
noncomputable def to575 (P : Params) : Obj := oT []
noncomputable def to576 (P : Params) : Obj := oF []
noncomputable def to577 (P : Params) : Obj := oT [(vS "octets" 919), (vS "is_plus" 920)]
noncomputable def to578 (P : Params) : Obj := oT []
noncomputable def to579 (P : Params) : Obj := oO vN none (.func (fD (stA 64) (sS "string_octets") (sS "string_octets") (scS (stA 64)) 0 [] vN vN vN vN none vN vN 0))
noncomputable def to580 (P : Params) : Obj := oC [(vS "string_octets" 916), (vS "string_octets" 917), (vS "/claim/cut.py" 918), (vI 430), (vI 2), (vI 0), (vI 0), (vI 3), (vR 575), vT, (vI 181), (vR 576), vN, (vR 577), (vR 578), (vR 579), (vI 921), (vI 430), (vS "/claim/cut.py" 922)]
noncomputable def to581 (P : Params) : Obj := oO (.type "function") none (.func (fD (stA 64) (sS "string_octets") (sS "string_octets") (scS (stA 64)) 3 [] (vR 574) vN vN (vS "postkeep.wire" 552) none (vR 580) vN 0))
noncomputable def to582 (P : Params) : Obj := oT [vF]
noncomputable def to583 (P : Params) : Obj := oT []
noncomputable def to584 (P : Params) : Obj := oF []
noncomputable def to585 (P : Params) : Obj := oO vN none (.func (fD (stA 65) (sS "astring_octets") (sS "astring_octets") (scS (stA 65)) 0 [] vN vN vN vN none vN vN 0))
noncomputable def to586 (P : Params) : Obj := oC [(vS "astring_octets" 924), (vS "astring_octets" 925), (vS "/claim/cut.py" 926), (vI 434), (vI 2), (vI 0), (vI 0), (vI 3), (vR 583), vT, (vI 181), (vR 584), vN, vN, vN, (vR 585), (vI 927), (vI 434), (vS "/claim/cut.py" 928)]
noncomputable def to587 (P : Params) : Obj := oO (.type "function") none (.func (fD (stA 65) (sS "astring_octets") (sS "astring_octets") (scS (stA 65)) 3 [] (vR 582) vN vN (vS "postkeep.wire" 552) none (vR 586) vN 0))
noncomputable def to588 (P : Params) : Obj := oT [(.int 0 930)]
noncomputable def to589 (P : Params) : Obj := oT []
noncomputable def to590 (P : Params) : Obj := oF []
noncomputable def to591 (P : Params) : Obj := oO vN none (.func (fD (stA 66) (sS "write_value") (sS "write_value") (scS (stA 66)) 0 [] vN vN vN vN none vN vN 0))
noncomputable def to592 (P : Params) : Obj := oC [(vS "write_value" 931), (vS "write_value" 932), (vS "/claim/cut.py" 933), (vI 439), (vI 2), (vI 0), (vI 0), (vI 3), (vR 589), vT, (vI 181), (vR 590), vN, vN, vN, (vR 591), (vI 934), (vI 439), (vS "/claim/cut.py" 935)]
noncomputable def to593 (P : Params) : Obj := oO (.type "function") none (.func (fD (stA 66) (sS "write_value") (sS "write_value") (scS (stA 66)) 3 [] (vR 588) vN vN (vS "postkeep.wire" 552) none (vR 592) vN 0))
noncomputable def to594 (P : Params) : Obj := oT []
noncomputable def to595 (P : Params) : Obj := oF []
noncomputable def to596 (P : Params) : Obj := oT [(vS "text" 944), (vS "at" 945), (vS "sign" 946)]
noncomputable def to597 (P : Params) : Obj := oT []
noncomputable def to598 (P : Params) : Obj := oO vN none (.func (fD (stA 69) (sS "checked_text") (sS "checked_text") (scS (stA 69)) 0 [] vN vN vN vN none vN vN 0))
noncomputable def to599 (P : Params) : Obj := oC [(vS "checked_text" 941), (vS "checked_text" 942), (vS "/claim/cut.py" 943), (vI 453), (vI 1), (vI 0), (vI 0), (vI 3), (vR 594), vT, (vI 181), (vR 595), vN, (vR 596), (vR 597), (vR 598), (vI 947), (vI 453), (vS "/claim/cut.py" 948)]
noncomputable def to600 (P : Params) : Obj := oO (.type "function") none (.func (fD (stA 69) (sS "checked_text") (sS "checked_text") (scS (stA 69)) 3 [] vN vN vN (vS "postkeep.answers" 937) none (vR 599) vN 0))
noncomputable def to601 (P : Params) : Obj := oT []
noncomputable def to602 (P : Params) : Obj := oF []
noncomputable def to603 (P : Params) : Obj := oT [(vS "name" 953)]
noncomputable def to604 (P : Params) : Obj := oT []
noncomputable def to605 (P : Params) : Obj := oO vN none (.func (fD (stA 70) (sS "name_octets") (sS "name_octets") (scS (stA 70)) 0 [] vN vN vN vN none vN vN 0))
noncomputable def to606 (P : Params) : Obj := oC [(vS "name_octets" 950), (vS "name_octets" 951), (vS "/claim/cut.py" 952), (vI 460), (vI 1), (vI 0), (vI 0), (vI 3), (vR 601), vT, (vI 181), (vR 602), vN, (vR 603), (vR 604), (vR 605), (vI 954), (vI 460), (vS "/claim/cut.py" 955)]
noncomputable def to607 (P : Params) : Obj := oO (.type "function") none (.func (fD (stA 70) (sS "name_octets") (sS "name_octets") (scS (stA 70)) 3 [] vN vN vN (vS "postkeep.answers" 937) none (vR 606) vN 0))
noncomputable def to608 (P : Params) : Obj := oT []
noncomputable def to609 (P : Params) : Obj := oF []
noncomputable def to610 (P : Params) : Obj := oO vN none (.func (fD (stA 71) (sS "words_octets") (sS "words_octets") (scS (stA 71)) 0 [] vN vN vN vN none vN vN 0))
noncomputable def to611 (P : Params) : Obj := oC [(vS "words_octets" 957), (vS "words_octets" 958), (vS "/claim/cut.py" 959), (vI 462), (vI 1), (vI 0), (vI 0), (vI 3), (vR 608), vT, (vI 181), (vR 609), vN, vN, vN, (vR 610), (vI 960), (vI 462), (vS "/claim/cut.py" 961)]
noncomputable def to612 (P : Params) : Obj := oO (.type "function") none (.func (fD (stA 71) (sS "words_octets") (sS "words_octets") (scS (stA 71)) 3 [] vN vN vN (vS "postkeep.answers" 937) none (vR 611) vN 0))
noncomputable def to613 (P : Params) : Obj := oT []
noncomputable def to614 (P : Params) : Obj := oF []
noncomputable def to615 (P : Params) : Obj := oO vN none (.func (fD (stA 72) (sS "bracketed") (sS "bracketed") (scS (stA 72)) 0 [] vN vN vN vN none vN vN 0))
noncomputable def to616 (P : Params) : Obj := oC [(vS "bracketed" 963), (vS "bracketed" 964), (vS "/claim/cut.py" 965), (vI 464), (vI 1), (vI 0), (vI 0), (vI 3), (vR 613), vT, (vI 181), (vR 614), vN, vN, vN, (vR 615), (vI 966), (vI 464), (vS "/claim/cut.py" 967)]
noncomputable def to617 (P : Params) : Obj := oO (.type "function") none (.func (fD (stA 72) (sS "bracketed") (sS "bracketed") (scS (stA 72)) 3 [] vN vN vN (vS "postkeep.answers" 937) none (vR 616) vN 0))
noncomputable def to618 (P : Params) : Obj := oT []
noncomputable def to619 (P : Params) : Obj := oF []
noncomputable def to620 (P : Params) : Obj := oO vN none (.func (fD (stA 73) (sS "numbers_octets") (sS "numbers_octets") (scS (stA 73)) 0 [] vN vN vN vN none vN vN 0))
noncomputable def to621 (P : Params) : Obj := oC [(vS "numbers_octets" 969), (vS "numbers_octets" 970), (vS "/claim/cut.py" 971), (vI 466), (vI 1), (vI 0), (vI 0), (vI 3), (vR 618), vT, (vI 181), (vR 619), vN, vN, vN, (vR 620), (vI 972), (vI 466), (vS "/claim/cut.py" 973)]
noncomputable def to622 (P : Params) : Obj := oO (.type "function") none (.func (fD (stA 73) (sS "numbers_octets") (sS "numbers_octets") (scS (stA 73)) 3 [] vN vN vN (vS "postkeep.answers" 937) none (vR 621) vN 0))
noncomputable def to623 (P : Params) : Obj := oT []
noncomputable def to624 (P : Params) : Obj := oF []
noncomputable def to625 (P : Params) : Obj := oT [(vS "pairs" 978), (vS "found" 979), (vS "word" 980), (vS "worth" 981)]
noncomputable def to626 (P : Params) : Obj := oT []
noncomputable def to627 (P : Params) : Obj := oO vN none (.func (fD (stA 74) (sS "pairs_octets") (sS "pairs_octets") (scS (stA 74)) 0 [] vN vN vN vN none vN vN 0))
noncomputable def to628 (P : Params) : Obj := oC [(vS "pairs_octets" 975), (vS "pairs_octets" 976), (vS "/claim/cut.py" 977), (vI 468), (vI 1), (vI 0), (vI 0), (vI 3), (vR 623), vT, (vI 181), (vR 624), vN, (vR 625), (vR 626), (vR 627), (vI 982), (vI 468), (vS "/claim/cut.py" 983)]
noncomputable def to629 (P : Params) : Obj := oO (.type "function") none (.func (fD (stA 74) (sS "pairs_octets") (sS "pairs_octets") (scS (stA 74)) 3 [] vN vN vN (vS "postkeep.answers" 937) none (vR 628) vN 0))
noncomputable def to630 (P : Params) : Obj := oT []
noncomputable def to631 (P : Params) : Obj := oF []
noncomputable def to632 (P : Params) : Obj := oO vN none (.func (fD (stA 75) (sS "fetched_octets") (sS "fetched_octets") (scS (stA 75)) 0 [] vN vN vN vN none vN vN 0))
noncomputable def to633 (P : Params) : Obj := oC [(vS "fetched_octets" 985), (vS "fetched_octets" 986), (vS "/claim/cut.py" 987), (vI 474), (vI 1), (vI 0), (vI 0), (vI 3), (vR 630), vT, (vI 181), (vR 631), vN, vN, vN, (vR 632), (vI 988), (vI 474), (vS "/claim/cut.py" 989)]
noncomputable def to634 (P : Params) : Obj := oO (.type "function") none (.func (fD (stA 75) (sS "fetched_octets") (sS "fetched_octets") (scS (stA 75)) 3 [] vN vN vN (vS "postkeep.answers" 937) none (vR 633) vN 0))
noncomputable def to635 (P : Params) : Obj := oT []
noncomputable def to636 (P : Params) : Obj := oF []
noncomputable def to637 (P : Params) : Obj := oO vN none (.func (fD (stA 76) (sS "status_octets") (sS "status_octets") (scS (stA 76)) 0 [] vN vN vN vN none vN vN 0))
noncomputable def to638 (P : Params) : Obj := oC [(vS "status_octets" 991), (vS "status_octets" 992), (vS "/claim/cut.py" 993), (vI 476), (vI 1), (vI 0), (vI 0), (vI 3), (vR 635), vT, (vI 181), (vR 636), vN, vN, vN, (vR 637), (vI 994), (vI 476), (vS "/claim/cut.py" 995)]
noncomputable def to639 (P : Params) : Obj := oO (.type "function") none (.func (fD (stA 76) (sS "status_octets") (sS "status_octets") (scS (stA 76)) 3 [] vN vN vN (vS "postkeep.answers" 937) none (vR 638) vN 0))
noncomputable def to640 (P : Params) : Obj := oT []
noncomputable def to641 (P : Params) : Obj := oF []
noncomputable def to642 (P : Params) : Obj := oT [(vS "answer" 1000)]
noncomputable def to643 (P : Params) : Obj := oT []
noncomputable def to644 (P : Params) : Obj := oO vN none (.func (fD (stA 77) (sS "box_octets") (sS "box_octets") (scS (stA 77)) 0 [] vN vN vN vN none vN vN 0))
noncomputable def to645 (P : Params) : Obj := oC [(vS "box_octets" 997), (vS "box_octets" 998), (vS "/claim/cut.py" 999), (vI 481), (vI 1), (vI 0), (vI 0), (vI 3), (vR 640), vT, (vI 181), (vR 641), vN, (vR 642), (vR 643), (vR 644), (vI 1001), (vI 481), (vS "/claim/cut.py" 1002)]
noncomputable def to646 (P : Params) : Obj := oO (.type "function") none (.func (fD (stA 77) (sS "box_octets") (sS "box_octets") (scS (stA 77)) 3 [] vN vN vN (vS "postkeep.answers" 937) none (vR 645) vN 0))
noncomputable def to647 (P : Params) : Obj := oT []
noncomputable def to648 (P : Params) : Obj := oF []
noncomputable def to649 (P : Params) : Obj := oT [(vS "answer" 1007), (vS "tail" 1008), (vS "head" 1009)]
noncomputable def to650 (P : Params) : Obj := oT []
noncomputable def to651 (P : Params) : Obj := oO vN none (.func (fD (stA 78) (sS "found_octets") (sS "found_octets") (scS (stA 78)) 0 [] vN vN vN vN none vN vN 0))
noncomputable def to652 (P : Params) : Obj := oC [(vS "found_octets" 1004), (vS "found_octets" 1005), (vS "/claim/cut.py" 1006), (vI 487), (vI 1), (vI 0), (vI 0), (vI 3), (vR 647), vT, (vI 181), (vR 648), vN, (vR 649), (vR 650), (vR 651), (vI 1010), (vI 487), (vS "/claim/cut.py" 1011)]
noncomputable def to653 (P : Params) : Obj := oO (.type "function") none (.func (fD (stA 78) (sS "found_octets") (sS "found_octets") (scS (stA 78)) 3 [] vN vN vN (vS "postkeep.answers" 937) none (vR 652) vN 0))
noncomputable def to654 (P : Params) : Obj := oT []
noncomputable def to655 (P : Params) : Obj := oF []
noncomputable def to656 (P : Params) : Obj := oT [(vS "answer" 1016), (vS "kind" 1017)]
noncomputable def to657 (P : Params) : Obj := oT []
noncomputable def to658 (P : Params) : Obj := oO vN none (.func (fD (stA 79) (sS "untagged_octets") (sS "untagged_octets") (scS (stA 79)) 0 [] vN vN vN vN none vN vN 0))
noncomputable def to659 (P : Params) : Obj := oC [(vS "untagged_octets" 1013), (vS "untagged_octets" 1014), (vS "/claim/cut.py" 1015), (vI 497), (vI 1), (vI 0), (vI 0), (vI 3), (vR 654), vT, (vI 181), (vR 655), vN, (vR 656), (vR 657), (vR 658), (vI 1018), (vI 497), (vS "/claim/cut.py" 1019)]
noncomputable def to660 (P : Params) : Obj := oO (.type "function") none (.func (fD (stA 79) (sS "untagged_octets") (sS "untagged_octets") (scS (stA 79)) 3 [] vN vN vN (vS "postkeep.answers" 937) none (vR 659) vN 0))
noncomputable def to661 (P : Params) : Obj := oT []
noncomputable def to662 (P : Params) : Obj := oF []
noncomputable def to663 (P : Params) : Obj := oT [(vS "answer" 1024)]
noncomputable def to664 (P : Params) : Obj := oT []
noncomputable def to665 (P : Params) : Obj := oO vN none (.func (fD (stA 80) (sS "write_answer") (sS "write_answer") (scS (stA 80)) 0 [] vN vN vN vN none vN vN 0))
noncomputable def to666 (P : Params) : Obj := oC [(vS "write_answer" 1021), (vS "write_answer" 1022), (vS "/claim/cut.py" 1023), (vI 516), (vI 1), (vI 0), (vI 0), (vI 3), (vR 661), vT, (vI 181), (vR 662), vN, (vR 663), (vR 664), (vR 665), (vI 1025), (vI 516), (vS "/claim/cut.py" 1026)]
noncomputable def to667 (P : Params) : Obj := oO (.type "function") none (.func (fD (stA 80) (sS "write_answer") (sS "write_answer") (scS (stA 80)) 3 [] vN vN vN (vS "postkeep.answers" 937) none (vR 666) vN 0))
noncomputable def to668 (P : Params) : Obj := oT []
noncomputable def to669 (P : Params) : Obj := oF []
noncomputable def to670 (P : Params) : Obj := oT [(vS "code" 1031)]
noncomputable def to671 (P : Params) : Obj := oT []
noncomputable def to672 (P : Params) : Obj := oO vN none (.func (fD (stA 81) (sS "is_name_code") (sS "is_name_code") (scS (stA 81)) 0 [] vN vN vN vN none vN vN 0))
noncomputable def to673 (P : Params) : Obj := oC [(vS "is_name_code" 1028), (vS "is_name_code" 1029), (vS "/claim/cut.py" 1030), (vI 522), (vI 1), (vI 0), (vI 0), (vI 3), (vR 668), vT, (vI 181), (vR 669), vN, (vR 670), (vR 671), (vR 672), (vI 1032), (vI 522), (vS "/claim/cut.py" 1033)]
noncomputable def to674 (P : Params) : Obj := oO (.type "function") none (.func (fD (stA 81) (sS "is_name_code") (sS "is_name_code") (scS (stA 81)) 3 [] vN vN vN (vS "postkeep.answers" 937) none (vR 673) vN 0))
noncomputable def to675 (P : Params) : Obj := oT []
noncomputable def to676 (P : Params) : Obj := oF []
noncomputable def to677 (P : Params) : Obj := oT [(vS "code" 1038)]
noncomputable def to678 (P : Params) : Obj := oT []
noncomputable def to679 (P : Params) : Obj := oO vN none (.func (fD (stA 82) (sS "is_text_code") (sS "is_text_code") (scS (stA 82)) 0 [] vN vN vN vN none vN vN 0))
noncomputable def to680 (P : Params) : Obj := oC [(vS "is_text_code" 1035), (vS "is_text_code" 1036), (vS "/claim/cut.py" 1037), (vI 524), (vI 1), (vI 0), (vI 0), (vI 3), (vR 675), vT, (vI 181), (vR 676), vN, (vR 677), (vR 678), (vR 679), (vI 1039), (vI 524), (vS "/claim/cut.py" 1040)]
noncomputable def to681 (P : Params) : Obj := oO (.type "function") none (.func (fD (stA 82) (sS "is_text_code") (sS "is_text_code") (scS (stA 82)) 3 [] vN vN vN (vS "postkeep.answers" 937) none (vR 680) vN 0))
noncomputable def to682 (P : Params) : Obj := oT []
noncomputable def to683 (P : Params) : Obj := oF []
noncomputable def to684 (P : Params) : Obj := oT [(vS "wire" 1045)]
noncomputable def to685 (P : Params) : Obj := oT []
noncomputable def to686 (P : Params) : Obj := oO vN none (.func (fD (stA 83) (sS "wire_word") (sS "wire_word") (scS (stA 83)) 0 [] vN vN vN vN none vN vN 0))
noncomputable def to687 (P : Params) : Obj := oC [(vS "wire_word" 1042), (vS "wire_word" 1043), (vS "/claim/cut.py" 1044), (vI 526), (vI 1), (vI 0), (vI 0), (vI 3), (vR 682), vT, (vI 181), (vR 683), vN, (vR 684), (vR 685), (vR 686), (vI 1046), (vI 526), (vS "/claim/cut.py" 1047)]
noncomputable def to688 (P : Params) : Obj := oO (.type "function") none (.func (fD (stA 83) (sS "wire_word") (sS "wire_word") (scS (stA 83)) 3 [] vN vN vN (vS "postkeep.answers" 937) none (vR 687) vN 0))
noncomputable def to689 (P : Params) : Obj := oT []
noncomputable def to690 (P : Params) : Obj := oF []
noncomputable def to691 (P : Params) : Obj := oT [(vS "wire" 1052)]
noncomputable def to692 (P : Params) : Obj := oT []
noncomputable def to693 (P : Params) : Obj := oO vN none (.func (fD (stA 84) (sS "box_name") (sS "box_name") (scS (stA 84)) 0 [] vN vN vN vN none vN vN 0))
noncomputable def to694 (P : Params) : Obj := oC [(vS "box_name" 1049), (vS "box_name" 1050), (vS "/claim/cut.py" 1051), (vI 528), (vI 1), (vI 0), (vI 0), (vI 3), (vR 689), vT, (vI 181), (vR 690), vN, (vR 691), (vR 692), (vR 693), (vI 1053), (vI 528), (vS "/claim/cut.py" 1054)]
noncomputable def to695 (P : Params) : Obj := oO (.type "function") none (.func (fD (stA 84) (sS "box_name") (sS "box_name") (scS (stA 84)) 3 [] vN vN vN (vS "postkeep.answers" 937) none (vR 694) vN 0))
noncomputable def to696 (P : Params) : Obj := oT []
noncomputable def to697 (P : Params) : Obj := oF []
noncomputable def to698 (P : Params) : Obj := oT [(vS "wire" 1059)]
noncomputable def to699 (P : Params) : Obj := oT [(vS "wire" 1060)]
noncomputable def to700 (P : Params) : Obj := oO vN none (.func (fD (stA 85) (sS "atoms") (sS "atoms") (scS (stA 85)) 0 [] vN vN vN vN none vN vN 0))
noncomputable def to701 (P : Params) : Obj := oC [(vS "atoms" 1056), (vS "atoms" 1057), (vS "/claim/cut.py" 1058), (vI 530), (vI 1), (vI 0), (vI 0), (vI 3), (vR 696), vT, (vI 181), (vR 697), vN, (vR 698), (vR 699), (vR 700), (vI 1061), (vI 530), (vS "/claim/cut.py" 1062)]
noncomputable def to702 (P : Params) : Obj := oO (.type "function") none (.func (fD (stA 85) (sS "atoms") (sS "atoms") (scS (stA 85)) 3 [] vN vN vN (vS "postkeep.answers" 937) none (vR 701) vN 0))
noncomputable def to703 (P : Params) : Obj := oT []
noncomputable def to704 (P : Params) : Obj := oF []
noncomputable def to705 (P : Params) : Obj := oO vN none (.func (fD (stA 86) (sS "flags_or") (sS "flags_or") (scS (stA 86)) 0 [] vN vN vN vN none vN vN 0))
noncomputable def to706 (P : Params) : Obj := oC [(vS "flags_or" 1064), (vS "flags_or" 1065), (vS "/claim/cut.py" 1066), (vI 532), (vI 2), (vI 0), (vI 0), (vI 3), (vR 703), vT, (vI 181), (vR 704), vN, vN, vN, (vR 705), (vI 1067), (vI 532), (vS "/claim/cut.py" 1068)]
noncomputable def to707 (P : Params) : Obj := oO (.type "function") none (.func (fD (stA 86) (sS "flags_or") (sS "flags_or") (scS (stA 86)) 3 [] vN vN vN (vS "postkeep.answers" 937) none (vR 706) vN 0))
noncomputable def to708 (P : Params) : Obj := oT []
noncomputable def to709 (P : Params) : Obj := oF []
noncomputable def to710 (P : Params) : Obj := oO vN none (.func (fD (stA 87) (sS "item_name") (sS "item_name") (scS (stA 87)) 0 [] vN vN vN vN none vN vN 0))
noncomputable def to711 (P : Params) : Obj := oC [(vS "item_name" 1070), (vS "item_name" 1071), (vS "/claim/cut.py" 1072), (vI 536), (vI 1), (vI 0), (vI 0), (vI 3), (vR 708), vT, (vI 181), (vR 709), vN, vN, vN, (vR 710), (vI 1073), (vI 536), (vS "/claim/cut.py" 1074)]
noncomputable def to712 (P : Params) : Obj := oO (.type "function") none (.func (fD (stA 87) (sS "item_name") (sS "item_name") (scS (stA 87)) 3 [] vN vN vN (vS "postkeep.answers" 937) none (vR 711) vN 0))
noncomputable def to713 (P : Params) : Obj := oT []
noncomputable def to714 (P : Params) : Obj := oF []
noncomputable def to715 (P : Params) : Obj := oT [(vS "wire" 1079), (vS "name" 1080)]
noncomputable def to716 (P : Params) : Obj := oT []
noncomputable def to717 (P : Params) : Obj := oO vN none (.func (fD (stA 88) (sS "fetched_pair") (sS "fetched_pair") (scS (stA 88)) 0 [] vN vN vN vN none vN vN 0))
noncomputable def to718 (P : Params) : Obj := oC [(vS "fetched_pair" 1076), (vS "fetched_pair" 1077), (vS "/claim/cut.py" 1078), (vI 552), (vI 1), (vI 0), (vI 0), (vI 3), (vR 713), vT, (vI 181), (vR 714), vN, (vR 715), (vR 716), (vR 717), (vI 1081), (vI 552), (vS "/claim/cut.py" 1082)]
noncomputable def to719 (P : Params) : Obj := oO (.type "function") none (.func (fD (stA 88) (sS "fetched_pair") (sS "fetched_pair") (scS (stA 88)) 3 [] vN vN vN (vS "postkeep.answers" 937) none (vR 718) vN 0))
noncomputable def to720 (P : Params) : Obj := oT []
noncomputable def to721 (P : Params) : Obj := oF []
noncomputable def to722 (P : Params) : Obj := oT [(vS "wire" 1087), (vS "found" 1088)]
noncomputable def to723 (P : Params) : Obj := oT []
noncomputable def to724 (P : Params) : Obj := oO vN none (.func (fD (stA 89) (sS "wire_numbers") (sS "wire_numbers") (scS (stA 89)) 0 [] vN vN vN vN none vN vN 0))
noncomputable def to725 (P : Params) : Obj := oC [(vS "wire_numbers" 1084), (vS "wire_numbers" 1085), (vS "/claim/cut.py" 1086), (vI 556), (vI 1), (vI 0), (vI 0), (vI 3), (vR 720), vT, (vI 181), (vR 721), vN, (vR 722), (vR 723), (vR 724), (vI 1089), (vI 556), (vS "/claim/cut.py" 1090)]
noncomputable def to726 (P : Params) : Obj := oO (.type "function") none (.func (fD (stA 89) (sS "wire_numbers") (sS "wire_numbers") (scS (stA 89)) 3 [] vN vN vN (vS "postkeep.answers" 937) none (vR 725) vN 0))
noncomputable def to727 (P : Params) : Obj := oT []
noncomputable def to728 (P : Params) : Obj := oF []
noncomputable def to729 (P : Params) : Obj := oT [(vS "wire" 1095), (vS "word" 1096)]
noncomputable def to730 (P : Params) : Obj := oT []
noncomputable def to731 (P : Params) : Obj := oO vN none (.func (fD (stA 90) (sS "found_pair") (sS "found_pair") (scS (stA 90)) 0 [] vN vN vN vN none vN vN 0))
noncomputable def to732 (P : Params) : Obj := oC [(vS "found_pair" 1092), (vS "found_pair" 1093), (vS "/claim/cut.py" 1094), (vI 562), (vI 1), (vI 0), (vI 0), (vI 3), (vR 727), vT, (vI 181), (vR 728), vN, (vR 729), (vR 730), (vR 731), (vI 1097), (vI 562), (vS "/claim/cut.py" 1098)]
noncomputable def to733 (P : Params) : Obj := oO (.type "function") none (.func (fD (stA 90) (sS "found_pair") (sS "found_pair") (scS (stA 90)) 3 [] vN vN vN (vS "postkeep.answers" 937) none (vR 732) vN 0))
noncomputable def to734 (P : Params) : Obj := oT []
noncomputable def to735 (P : Params) : Obj := oF []
noncomputable def to736 (P : Params) : Obj := oT [(vS "wire" 1103), (vS "found" 1104)]
noncomputable def to737 (P : Params) : Obj := oT []
noncomputable def to738 (P : Params) : Obj := oO vN none (.func (fD (stA 91) (sS "wire_words") (sS "wire_words") (scS (stA 91)) 0 [] vN vN vN vN none vN vN 0))
noncomputable def to739 (P : Params) : Obj := oC [(vS "wire_words" 1100), (vS "wire_words" 1101), (vS "/claim/cut.py" 1102), (vI 566), (vI 1), (vI 0), (vI 0), (vI 3), (vR 734), vT, (vI 181), (vR 735), vN, (vR 736), (vR 737), (vR 738), (vI 1105), (vI 566), (vS "/claim/cut.py" 1106)]
noncomputable def to740 (P : Params) : Obj := oO (.type "function") none (.func (fD (stA 91) (sS "wire_words") (sS "wire_words") (scS (stA 91)) 3 [] vN vN vN (vS "postkeep.answers" 937) none (vR 739) vN 0))
noncomputable def to741 (P : Params) : Obj := oT []
noncomputable def to742 (P : Params) : Obj := oF []
noncomputable def to743 (P : Params) : Obj := oO vN none (.func (fD (stA 92) (sS "rest_text") (sS "rest_text") (scS (stA 92)) 0 [] vN vN vN vN none vN vN 0))
noncomputable def to744 (P : Params) : Obj := oC [(vS "rest_text" 1108), (vS "rest_text" 1109), (vS "/claim/cut.py" 1110), (vI 571), (vI 1), (vI 0), (vI 0), (vI 3), (vR 741), vT, (vI 181), (vR 742), vN, vN, vN, (vR 743), (vI 1111), (vI 571), (vS "/claim/cut.py" 1112)]
noncomputable def to745 (P : Params) : Obj := oO (.type "function") none (.func (fD (stA 92) (sS "rest_text") (sS "rest_text") (scS (stA 92)) 3 [] vN vN vN (vS "postkeep.answers" 937) none (vR 744) vN 0))
noncomputable def to746 (P : Params) : Obj := oT []
noncomputable def to747 (P : Params) : Obj := oF []
noncomputable def to748 (P : Params) : Obj := oT [(vS "wire" 1117), (vS "tag" 1118), (vS "word" 1119), (vS "code" 1120), (vS "is_flags" 1121)]
noncomputable def to749 (P : Params) : Obj := oT []
noncomputable def to750 (P : Params) : Obj := oO vN none (.func (fD (stA 93) (sS "status_here") (sS "status_here") (scS (stA 93)) 0 [] vN vN vN vN none vN vN 0))
noncomputable def to751 (P : Params) : Obj := oC [(vS "status_here" 1114), (vS "status_here" 1115), (vS "/claim/cut.py" 1116), (vI 577), (vI 3), (vI 0), (vI 0), (vI 3), (vR 746), vT, (vI 181), (vR 747), vN, (vR 748), (vR 749), (vR 750), (vI 1122), (vI 577), (vS "/claim/cut.py" 1123)]
noncomputable def to752 (P : Params) : Obj := oO (.type "function") none (.func (fD (stA 93) (sS "status_here") (sS "status_here") (scS (stA 93)) 3 [] vN vN vN (vS "postkeep.answers" 937) none (vR 751) vN 0))
noncomputable def to753 (P : Params) : Obj := oT []
noncomputable def to754 (P : Params) : Obj := oF []
noncomputable def to755 (P : Params) : Obj := oT [(vS "wire" 1128), (vS "number" 1129), (vS "word" 1130)]
noncomputable def to756 (P : Params) : Obj := oT [(vS "wire" 1131)]
noncomputable def to757 (P : Params) : Obj := oO vN none (.func (fD (stA 94) (sS "numbered_here") (sS "numbered_here") (scS (stA 94)) 0 [] vN vN vN vN none vN vN 0))
noncomputable def to758 (P : Params) : Obj := oC [(vS "numbered_here" 1125), (vS "numbered_here" 1126), (vS "/claim/cut.py" 1127), (vI 590), (vI 2), (vI 0), (vI 0), (vI 3), (vR 753), vT, (vI 181), (vR 754), vN, (vR 755), (vR 756), (vR 757), (vI 1132), (vI 590), (vS "/claim/cut.py" 1133)]
noncomputable def to759 (P : Params) : Obj := oO (.type "function") none (.func (fD (stA 94) (sS "numbered_here") (sS "numbered_here") (scS (stA 94)) 3 [] vN vN vN (vS "postkeep.answers" 937) none (vR 758) vN 0))
noncomputable def to760 (P : Params) : Obj := oT []
noncomputable def to761 (P : Params) : Obj := oF []
noncomputable def to762 (P : Params) : Obj := oT [(vS "wire" 1138), (vS "word" 1139), (vS "name" 1140), (vS "attributes" 1141)]
noncomputable def to763 (P : Params) : Obj := oT [(vS "wire" 1142)]
noncomputable def to764 (P : Params) : Obj := oO vN none (.func (fD (stA 95) (sS "box_here") (sS "box_here") (scS (stA 95)) 0 [] vN vN vN vN none vN vN 0))
noncomputable def to765 (P : Params) : Obj := oC [(vS "box_here" 1135), (vS "box_here" 1136), (vS "/claim/cut.py" 1137), (vI 599), (vI 2), (vI 0), (vI 0), (vI 3), (vR 760), vT, (vI 181), (vR 761), vN, (vR 762), (vR 763), (vR 764), (vI 1143), (vI 599), (vS "/claim/cut.py" 1144)]
noncomputable def to766 (P : Params) : Obj := oO (.type "function") none (.func (fD (stA 95) (sS "box_here") (sS "box_here") (scS (stA 95)) 3 [] vN vN vN (vS "postkeep.answers" 937) none (vR 765) vN 0))
noncomputable def to767 (P : Params) : Obj := oT []
noncomputable def to768 (P : Params) : Obj := oF []
noncomputable def to769 (P : Params) : Obj := oO vN none (.func (fD (stA 96) (sS "found_here") (sS "found_here") (scS (stA 96)) 0 [] vN vN vN vN none vN vN 0))
noncomputable def to770 (P : Params) : Obj := oC [(vS "found_here" 1146), (vS "found_here" 1147), (vS "/claim/cut.py" 1148), (vI 610), (vI 2), (vI 0), (vI 0), (vI 3), (vR 767), vT, (vI 181), (vR 768), vN, vN, vN, (vR 769), (vI 1149), (vI 610), (vS "/claim/cut.py" 1150)]
noncomputable def to771 (P : Params) : Obj := oO (.type "function") none (.func (fD (stA 96) (sS "found_here") (sS "found_here") (scS (stA 96)) 3 [] vN vN vN (vS "postkeep.answers" 937) none (vR 770) vN 0))
noncomputable def to772 (P : Params) : Obj := oT []
noncomputable def to773 (P : Params) : Obj := oF []
noncomputable def to774 (P : Params) : Obj := oT [(vS "wire" 1155), (vS "word" 1156), (vS "is_earlier" 1157)]
noncomputable def to775 (P : Params) : Obj := oT []
noncomputable def to776 (P : Params) : Obj := oO vN none (.func (fD (stA 97) (sS "untagged_here") (sS "untagged_here") (scS (stA 97)) 0 [] vN vN vN vN none vN vN 0))
noncomputable def to777 (P : Params) : Obj := oC [(vS "untagged_here" 1152), (vS "untagged_here" 1153), (vS "/claim/cut.py" 1154), (vI 631), (vI 1), (vI 0), (vI 0), (vI 3), (vR 772), vT, (vI 181), (vR 773), vN, (vR 774), (vR 775), (vR 776), (vI 1158), (vI 631), (vS "/claim/cut.py" 1159)]
noncomputable def to778 (P : Params) : Obj := oO (.type "function") none (.func (fD (stA 97) (sS "untagged_here") (sS "untagged_here") (scS (stA 97)) 3 [] vN vN vN (vS "postkeep.answers" 937) none (vR 777) vN 0))
noncomputable def to779 (P : Params) : Obj := oT []
noncomputable def to780 (P : Params) : Obj := oF []
noncomputable def to781 (P : Params) : Obj := oT [(vS "octets" 1164), (vS "wire" 1165), (vS "answer" 1166), (vS "tag" 1167)]
noncomputable def to782 (P : Params) : Obj := oT []
noncomputable def to783 (P : Params) : Obj := oO vN none (.func (fD (stA 98) (sS "read_answer") (sS "read_answer") (scS (stA 98)) 0 [] vN vN vN vN none vN vN 0))
noncomputable def to784 (P : Params) : Obj := oC [(vS "read_answer" 1161), (vS "read_answer" 1162), (vS "/claim/cut.py" 1163), (vI 652), (vI 1), (vI 0), (vI 0), (vI 3), (vR 779), vT, (vI 181), (vR 780), vN, (vR 781), (vR 782), (vR 783), (vI 1168), (vI 652), (vS "/claim/cut.py" 1169)]
noncomputable def to785 (P : Params) : Obj := oO (.type "function") none (.func (fD (stA 98) (sS "read_answer") (sS "read_answer") (scS (stA 98)) 3 [] vN vN vN (vS "postkeep.answers" 937) none (vR 784) vN 0))
noncomputable def to786 (P : Params) : Obj := oT [(vS "a" 1173), (vS "[" 1174), (vS "{" 1175), (vS "}" 1176), (vS "3" 1177), (vS " " 1178), (vS "]" 1179), (vS "\\" 1180), (vS "\"" 1181), (vS "\n" 1182), (vS "\x7f" 1183), (vS "é" 1184), (vS "~" 1185), (vS "\t" 1186), (vS "*" 1187)]
noncomputable def to787 (P : Params) : Obj := oT []
noncomputable def to788 (P : Params) : Obj := oF []
noncomputable def to789 (P : Params) : Obj := oT [(vS "source" 1192), (vS "limit" 1193), (vS "cells" 1194), (vS "at" 1195)]
noncomputable def to790 (P : Params) : Obj := oT []
noncomputable def to791 (P : Params) : Obj := oO vN none (.func (fD (stA 101) (sS "_law_draw") (sS "_law_draw") (scS (stA 101)) 0 [] vN vN vN vN none vN vN 0))
noncomputable def to792 (P : Params) : Obj := oC [(vS "_law_draw" 1189), (vS "_law_draw" 1190), (vS "/claim/cut.py" 1191), (vI 667), (vI 2), (vI 0), (vI 0), (vI 3), (vR 787), vT, (vI 181), (vR 788), vN, (vR 789), (vR 790), (vR 791), (vI 1196), (vI 667), (vS "/claim/cut.py" 1197)]
noncomputable def to793 (P : Params) : Obj := oO (.type "function") none (.func (fD (stA 101) (sS "_law_draw") (sS "_law_draw") (scS (stA 101)) 3 [] vN vN vN (vS "law_nz0333_01" 1171) none (vR 792) vN 0))
noncomputable def to794 (P : Params) : Obj := oT []
noncomputable def to795 (P : Params) : Obj := oF []
noncomputable def to796 (P : Params) : Obj := oT [(vS "text" 1202), (vS "at" 1203)]
noncomputable def to797 (P : Params) : Obj := oT []
noncomputable def to798 (P : Params) : Obj := oO vN none (.func (fD (stA 102) (sS "_law_refused") (sS "_law_refused") (scS (stA 102)) 0 [] vN vN vN vN none vN vN 0))
noncomputable def to799 (P : Params) : Obj := oC [(vS "_law_refused" 1199), (vS "_law_refused" 1200), (vS "/claim/cut.py" 1201), (vI 672), (vI 1), (vI 0), (vI 0), (vI 3), (vR 794), vT, (vI 181), (vR 795), vN, (vR 796), (vR 797), (vR 798), (vI 1204), (vI 672), (vS "/claim/cut.py" 1205)]
noncomputable def to800 (P : Params) : Obj := oO (.type "function") none (.func (fD (stA 102) (sS "_law_refused") (sS "_law_refused") (scS (stA 102)) 3 [] vN vN vN (vS "law_nz0333_01" 1171) none (vR 799) vN 0))
noncomputable def to801 (P : Params) : Obj := oT []
noncomputable def to802 (P : Params) : Obj := oF []
noncomputable def to803 (P : Params) : Obj := oT [(vS "text" 1210), (vS "fault" 1211)]
noncomputable def to804 (P : Params) : Obj := oT []
noncomputable def to805 (P : Params) : Obj := oO vN none (.func (fD (stA 103) (sS "_law_checked") (sS "_law_checked") (scS (stA 103)) 0 [] vN vN vN vN none vN vN 0))
noncomputable def to806 (P : Params) : Obj := oC [(vS "_law_checked" 1207), (vS "_law_checked" 1208), (vS "/claim/cut.py" 1209), (vI 677), (vI 1), (vI 0), (vI 0), (vI 3), (vR 801), vT, (vI 181), (vR 802), vN, (vR 803), (vR 804), (vR 805), (vI 1212), (vI 677), (vS "/claim/cut.py" 1213)]
noncomputable def to807 (P : Params) : Obj := oO (.type "function") none (.func (fD (stA 103) (sS "_law_checked") (sS "_law_checked") (scS (stA 103)) 3 [] vN vN vN (vS "law_nz0333_01" 1171) none (vR 806) vN 0))
noncomputable def to808 (P : Params) : Obj := oT []
noncomputable def to809 (P : Params) : Obj := oF []
noncomputable def to810 (P : Params) : Obj := oT [(vS "answer" 1218), (vS "fault" 1219)]
noncomputable def to811 (P : Params) : Obj := oT []
noncomputable def to812 (P : Params) : Obj := oO vN none (.func (fD (stA 104) (sS "_law_written") (sS "_law_written") (scS (stA 104)) 0 [] vN vN vN vN none vN vN 0))
noncomputable def to813 (P : Params) : Obj := oC [(vS "_law_written" 1215), (vS "_law_written" 1216), (vS "/claim/cut.py" 1217), (vI 682), (vI 1), (vI 0), (vI 0), (vI 3), (vR 808), vT, (vI 181), (vR 809), vN, (vR 810), (vR 811), (vR 812), (vI 1220), (vI 682), (vS "/claim/cut.py" 1221)]
noncomputable def to814 (P : Params) : Obj := oO (.type "function") none (.func (fD (stA 104) (sS "_law_written") (sS "_law_written") (scS (stA 104)) 3 [] vN vN vN (vS "law_nz0333_01" 1171) none (vR 813) vN 0))
noncomputable def to815 (P : Params) : Obj := oT []
noncomputable def to816 (P : Params) : Obj := oF []
noncomputable def to817 (P : Params) : Obj := oO vN none (.func (fD (stA 105) (sS "law") (sS "law") (scS (stA 105)) 0 [] vN vN vN vN none vN vN 0))
noncomputable def to818 (P : Params) : Obj := oC [(vS "law" 1223), (vS "law" 1224), (vS "/claim/cut.py" 1225), (vI 687), (vI 1), (vI 0), (vI 0), (vI 3), (vR 815), vT, (vI 181), (vR 816), vN, vN, vN, (vR 817), (vI 1226), (vI 687), (vS "/claim/cut.py" 1227)]
noncomputable def to819 (P : Params) : Obj := oO (.type "function") none (.func (fD (stA 105) (sS "law") (sS "law") (scS (stA 105)) 3 [] vN vN vN (vS "law_nz0333_01" 1171) none (vR 818) vN 0))
noncomputable def tch0 (P : Params) (o2 o3 o12 : Obj) (r : List Obj) : List Obj := (boot_o_0 P) :: (boot_o_1 P) :: o2 :: o3 :: (boot_o_4 P) :: (boot_o_5 P) :: (boot_o_6 P) :: (boot_o_7 P) :: (boot_o_8 P) :: (boot_o_9 P) :: (boot_o_10 P) :: (to11 P) :: o12 :: (to13 P) :: (to14 P) :: r
noncomputable def tch1 (P : Params) (o46 : Obj) (r : List Obj) : List Obj := (to15 P) :: (to16 P) :: (to17 P) :: (to18 P) :: (to19 P) :: (to20 P) :: (to21 P) :: (to22 P) :: (to23 P) :: (to24 P) :: (to25 P) :: (to26 P) :: (to27 P) :: (to28 P) :: (to29 P) :: (to30 P) :: (to31 P) :: (to32 P) :: (to33 P) :: (to34 P) :: (to35 P) :: (to36 P) :: (to37 P) :: (to38 P) :: (to39 P) :: (to40 P) :: (to41 P) :: (to42 P) :: (to43 P) :: (to44 P) :: (to45 P) :: o46 :: (to47 P) :: (to48 P) :: (to49 P) :: (to50 P) :: (to51 P) :: (to52 P) :: (to53 P) :: (to54 P) :: (to55 P) :: (to56 P) :: (to57 P) :: (to58 P) :: (to59 P) :: (to60 P) :: (to61 P) :: (to62 P) :: (to63 P) :: (to64 P) :: (to65 P) :: (to66 P) :: (to67 P) :: (to68 P) :: (to69 P) :: (to70 P) :: (to71 P) :: (to72 P) :: (to73 P) :: (to74 P) :: (to75 P) :: (to76 P) :: (to77 P) :: (to78 P) :: (to79 P) :: (to80 P) :: (to81 P) :: (to82 P) :: (to83 P) :: (to84 P) :: (to85 P) :: r
noncomputable def tch2 (P : Params) (r : List Obj) : List Obj := (to86 P) :: (to87 P) :: (to88 P) :: (to89 P) :: (to90 P) :: (to91 P) :: (to92 P) :: (to93 P) :: (to94 P) :: (to95 P) :: (to96 P) :: (to97 P) :: (to98 P) :: (to99 P) :: (to100 P) :: (to101 P) :: (to102 P) :: (to103 P) :: (to104 P) :: (to105 P) :: (to106 P) :: (to107 P) :: (to108 P) :: (to109 P) :: (to110 P) :: (to111 P) :: (to112 P) :: (to113 P) :: (to114 P) :: (to115 P) :: (to116 P) :: (to117 P) :: (to118 P) :: (to119 P) :: (to120 P) :: (to121 P) :: (to122 P) :: (to123 P) :: (to124 P) :: (to125 P) :: (to126 P) :: (to127 P) :: (to128 P) :: (to129 P) :: (to130 P) :: (to131 P) :: (to132 P) :: (to133 P) :: (to134 P) :: (to135 P) :: (to136 P) :: (to137 P) :: (to138 P) :: (to139 P) :: (to140 P) :: (to141 P) :: (to142 P) :: (to143 P) :: (to144 P) :: (to145 P) :: (to146 P) :: (to147 P) :: (to148 P) :: (to149 P) :: (to150 P) :: (to151 P) :: (to152 P) :: (to153 P) :: (to154 P) :: (to155 P) :: (to156 P) :: (to157 P) :: (to158 P) :: (to159 P) :: (to160 P) :: (to161 P) :: (to162 P) :: (to163 P) :: (to164 P) :: (to165 P) :: (to166 P) :: (to167 P) :: (to168 P) :: (to169 P) :: (to170 P) :: (to171 P) :: (to172 P) :: (to173 P) :: (to174 P) :: (to175 P) :: (to176 P) :: (to177 P) :: (to178 P) :: (to179 P) :: (to180 P) :: (to181 P) :: (to182 P) :: (to183 P) :: (to184 P) :: (to185 P) :: (to186 P) :: (to187 P) :: (to188 P) :: (to189 P) :: (to190 P) :: (to191 P) :: (to192 P) :: (to193 P) :: (to194 P) :: (to195 P) :: (to196 P) :: (to197 P) :: (to198 P) :: (to199 P) :: (to200 P) :: (to201 P) :: (to202 P) :: (to203 P) :: (to204 P) :: (to205 P) :: (to206 P) :: (to207 P) :: (to208 P) :: (to209 P) :: (to210 P) :: (to211 P) :: (to212 P) :: (to213 P) :: (to214 P) :: (to215 P) :: (to216 P) :: (to217 P) :: (to218 P) :: (to219 P) :: (to220 P) :: (to221 P) :: (to222 P) :: (to223 P) :: (to224 P) :: (to225 P) :: r
noncomputable def tch3 (P : Params) (r : List Obj) : List Obj := (to226 P) :: (to227 P) :: (to228 P) :: (to229 P) :: (to230 P) :: (to231 P) :: (to232 P) :: (to233 P) :: (to234 P) :: (to235 P) :: (to236 P) :: (to237 P) :: (to238 P) :: (to239 P) :: (to240 P) :: (to241 P) :: (to242 P) :: (to243 P) :: (to244 P) :: (to245 P) :: (to246 P) :: (to247 P) :: (to248 P) :: (to249 P) :: (to250 P) :: (to251 P) :: (to252 P) :: (to253 P) :: (to254 P) :: (to255 P) :: (to256 P) :: (to257 P) :: (to258 P) :: (to259 P) :: (to260 P) :: (to261 P) :: (to262 P) :: (to263 P) :: (to264 P) :: (to265 P) :: (to266 P) :: (to267 P) :: (to268 P) :: (to269 P) :: (to270 P) :: (to271 P) :: (to272 P) :: (to273 P) :: (to274 P) :: (to275 P) :: (to276 P) :: (to277 P) :: (to278 P) :: (to279 P) :: (to280 P) :: (to281 P) :: (to282 P) :: (to283 P) :: (to284 P) :: (to285 P) :: (to286 P) :: (to287 P) :: (to288 P) :: (to289 P) :: (to290 P) :: (to291 P) :: (to292 P) :: (to293 P) :: (to294 P) :: (to295 P) :: (to296 P) :: (to297 P) :: (to298 P) :: (to299 P) :: (to300 P) :: (to301 P) :: (to302 P) :: (to303 P) :: (to304 P) :: (to305 P) :: (to306 P) :: (to307 P) :: (to308 P) :: (to309 P) :: (to310 P) :: (to311 P) :: (to312 P) :: (to313 P) :: (to314 P) :: (to315 P) :: (to316 P) :: (to317 P) :: (to318 P) :: (to319 P) :: (to320 P) :: (to321 P) :: (to322 P) :: (to323 P) :: (to324 P) :: (to325 P) :: (to326 P) :: (to327 P) :: (to328 P) :: (to329 P) :: (to330 P) :: (to331 P) :: (to332 P) :: (to333 P) :: (to334 P) :: (to335 P) :: (to336 P) :: (to337 P) :: (to338 P) :: (to339 P) :: (to340 P) :: (to341 P) :: (to342 P) :: (to343 P) :: (to344 P) :: (to345 P) :: (to346 P) :: (to347 P) :: (to348 P) :: (to349 P) :: (to350 P) :: (to351 P) :: (to352 P) :: (to353 P) :: (to354 P) :: (to355 P) :: (to356 P) :: (to357 P) :: (to358 P) :: (to359 P) :: (to360 P) :: (to361 P) :: (to362 P) :: (to363 P) :: (to364 P) :: r
noncomputable def tch4 (P : Params) (r : List Obj) : List Obj := (to365 P) :: (to366 P) :: (to367 P) :: (to368 P) :: (to369 P) :: (to370 P) :: (to371 P) :: (to372 P) :: (to373 P) :: (to374 P) :: (to375 P) :: (to376 P) :: (to377 P) :: (to378 P) :: (to379 P) :: (to380 P) :: (to381 P) :: (to382 P) :: (to383 P) :: (to384 P) :: (to385 P) :: (to386 P) :: (to387 P) :: (to388 P) :: (to389 P) :: (to390 P) :: (to391 P) :: (to392 P) :: (to393 P) :: (to394 P) :: (to395 P) :: (to396 P) :: (to397 P) :: (to398 P) :: (to399 P) :: (to400 P) :: (to401 P) :: (to402 P) :: (to403 P) :: (to404 P) :: (to405 P) :: (to406 P) :: (to407 P) :: (to408 P) :: (to409 P) :: (to410 P) :: (to411 P) :: (to412 P) :: (to413 P) :: (to414 P) :: (to415 P) :: (to416 P) :: (to417 P) :: (to418 P) :: (to419 P) :: (to420 P) :: (to421 P) :: (to422 P) :: (to423 P) :: (to424 P) :: (to425 P) :: (to426 P) :: (to427 P) :: (to428 P) :: (to429 P) :: (to430 P) :: (to431 P) :: (to432 P) :: (to433 P) :: (to434 P) :: (to435 P) :: (to436 P) :: (to437 P) :: (to438 P) :: (to439 P) :: (to440 P) :: (to441 P) :: (to442 P) :: (to443 P) :: (to444 P) :: (to445 P) :: (to446 P) :: (to447 P) :: (to448 P) :: (to449 P) :: (to450 P) :: (to451 P) :: (to452 P) :: (to453 P) :: (to454 P) :: (to455 P) :: (to456 P) :: (to457 P) :: (to458 P) :: (to459 P) :: (to460 P) :: (to461 P) :: (to462 P) :: (to463 P) :: (to464 P) :: (to465 P) :: (to466 P) :: (to467 P) :: (to468 P) :: (to469 P) :: (to470 P) :: (to471 P) :: (to472 P) :: (to473 P) :: (to474 P) :: (to475 P) :: (to476 P) :: (to477 P) :: (to478 P) :: (to479 P) :: (to480 P) :: (to481 P) :: (to482 P) :: (to483 P) :: (to484 P) :: (to485 P) :: (to486 P) :: (to487 P) :: (to488 P) :: (to489 P) :: (to490 P) :: (to491 P) :: (to492 P) :: (to493 P) :: (to494 P) :: (to495 P) :: (to496 P) :: (to497 P) :: (to498 P) :: (to499 P) :: (to500 P) :: (to501 P) :: (to502 P) :: (to503 P) :: (to504 P) :: (to505 P) :: (to506 P) :: (to507 P) :: (to508 P) :: (to509 P) :: (to510 P) :: (to511 P) :: (to512 P) :: (to513 P) :: (to514 P) :: (to515 P) :: (to516 P) :: (to517 P) :: (to518 P) :: (to519 P) :: (to520 P) :: (to521 P) :: (to522 P) :: (to523 P) :: (to524 P) :: (to525 P) :: (to526 P) :: (to527 P) :: (to528 P) :: (to529 P) :: (to530 P) :: (to531 P) :: (to532 P) :: (to533 P) :: (to534 P) :: (to535 P) :: (to536 P) :: (to537 P) :: (to538 P) :: (to539 P) :: (to540 P) :: (to541 P) :: (to542 P) :: (to543 P) :: (to544 P) :: (to545 P) :: (to546 P) :: (to547 P) :: (to548 P) :: (to549 P) :: (to550 P) :: (to551 P) :: (to552 P) :: (to553 P) :: r
noncomputable def tch5 (P : Params) (r : List Obj) : List Obj := (to554 P) :: (to555 P) :: (to556 P) :: (to557 P) :: (to558 P) :: (to559 P) :: (to560 P) :: (to561 P) :: (to562 P) :: (to563 P) :: (to564 P) :: (to565 P) :: (to566 P) :: (to567 P) :: (to568 P) :: (to569 P) :: (to570 P) :: (to571 P) :: (to572 P) :: (to573 P) :: (to574 P) :: (to575 P) :: (to576 P) :: (to577 P) :: (to578 P) :: (to579 P) :: (to580 P) :: (to581 P) :: (to582 P) :: (to583 P) :: (to584 P) :: (to585 P) :: (to586 P) :: (to587 P) :: (to588 P) :: (to589 P) :: (to590 P) :: (to591 P) :: (to592 P) :: (to593 P) :: (to594 P) :: (to595 P) :: (to596 P) :: (to597 P) :: (to598 P) :: (to599 P) :: (to600 P) :: (to601 P) :: (to602 P) :: (to603 P) :: (to604 P) :: (to605 P) :: (to606 P) :: (to607 P) :: (to608 P) :: (to609 P) :: (to610 P) :: (to611 P) :: (to612 P) :: (to613 P) :: (to614 P) :: (to615 P) :: (to616 P) :: (to617 P) :: (to618 P) :: (to619 P) :: (to620 P) :: (to621 P) :: (to622 P) :: (to623 P) :: (to624 P) :: (to625 P) :: (to626 P) :: (to627 P) :: (to628 P) :: (to629 P) :: (to630 P) :: (to631 P) :: (to632 P) :: (to633 P) :: (to634 P) :: (to635 P) :: (to636 P) :: (to637 P) :: (to638 P) :: (to639 P) :: (to640 P) :: (to641 P) :: (to642 P) :: (to643 P) :: (to644 P) :: (to645 P) :: (to646 P) :: (to647 P) :: (to648 P) :: (to649 P) :: (to650 P) :: (to651 P) :: (to652 P) :: (to653 P) :: (to654 P) :: (to655 P) :: (to656 P) :: (to657 P) :: (to658 P) :: (to659 P) :: (to660 P) :: (to661 P) :: (to662 P) :: (to663 P) :: (to664 P) :: (to665 P) :: (to666 P) :: (to667 P) :: (to668 P) :: (to669 P) :: (to670 P) :: (to671 P) :: (to672 P) :: (to673 P) :: (to674 P) :: r
noncomputable def tch6 (P : Params) (r : List Obj) : List Obj := (to675 P) :: (to676 P) :: (to677 P) :: (to678 P) :: (to679 P) :: (to680 P) :: (to681 P) :: (to682 P) :: (to683 P) :: (to684 P) :: (to685 P) :: (to686 P) :: (to687 P) :: (to688 P) :: (to689 P) :: (to690 P) :: (to691 P) :: (to692 P) :: (to693 P) :: (to694 P) :: (to695 P) :: (to696 P) :: (to697 P) :: (to698 P) :: (to699 P) :: (to700 P) :: (to701 P) :: (to702 P) :: (to703 P) :: (to704 P) :: (to705 P) :: (to706 P) :: (to707 P) :: (to708 P) :: (to709 P) :: (to710 P) :: (to711 P) :: (to712 P) :: (to713 P) :: (to714 P) :: (to715 P) :: (to716 P) :: (to717 P) :: (to718 P) :: (to719 P) :: (to720 P) :: (to721 P) :: (to722 P) :: (to723 P) :: (to724 P) :: (to725 P) :: (to726 P) :: (to727 P) :: (to728 P) :: (to729 P) :: (to730 P) :: (to731 P) :: (to732 P) :: (to733 P) :: (to734 P) :: (to735 P) :: (to736 P) :: (to737 P) :: (to738 P) :: (to739 P) :: (to740 P) :: (to741 P) :: (to742 P) :: (to743 P) :: (to744 P) :: (to745 P) :: (to746 P) :: (to747 P) :: (to748 P) :: (to749 P) :: (to750 P) :: (to751 P) :: (to752 P) :: (to753 P) :: (to754 P) :: (to755 P) :: (to756 P) :: (to757 P) :: (to758 P) :: (to759 P) :: (to760 P) :: (to761 P) :: (to762 P) :: (to763 P) :: (to764 P) :: (to765 P) :: (to766 P) :: (to767 P) :: (to768 P) :: (to769 P) :: (to770 P) :: (to771 P) :: (to772 P) :: (to773 P) :: (to774 P) :: (to775 P) :: (to776 P) :: (to777 P) :: (to778 P) :: (to779 P) :: (to780 P) :: (to781 P) :: (to782 P) :: (to783 P) :: (to784 P) :: (to785 P) :: (to786 P) :: (to787 P) :: (to788 P) :: (to789 P) :: (to790 P) :: (to791 P) :: (to792 P) :: (to793 P) :: (to794 P) :: (to795 P) :: (to796 P) :: (to797 P) :: (to798 P) :: (to799 P) :: (to800 P) :: (to801 P) :: (to802 P) :: (to803 P) :: (to804 P) :: (to805 P) :: (to806 P) :: (to807 P) :: (to808 P) :: (to809 P) :: (to810 P) :: (to811 P) :: (to812 P) :: (to813 P) :: (to814 P) :: (to815 P) :: (to816 P) :: (to817 P) :: (to818 P) :: (to819 P) :: r
noncomputable def tmo2x0 (P : Params) : Obj := oO vN none (.dict (Array.mk []) 0)
noncomputable def tmo3x0 (P : Params) : Obj := oO (.type "dict") none (.dict (Array.mk [dE P "__name__" 165 (vS "__main__" 164), dE P "__doc__" 166 vN, dE P "__package__" 167 vN, dE P "__loader__" 168 (.builtin "__main__.__loader__#opaque"), dE P "__spec__" 169 vN, dE P "__annotations__" 170 (vR 6), dE P "__builtins__" 171 (vR 4), dE P "__file__" 173 (vS "/claim/cut.py" 172), dE P "__cached__" 174 vN]) 9)
noncomputable def tmo12x0 (P : Params) : Obj := oF []
noncomputable def thp0 (P : Params) : Heap := Heap.mk (Array.mk (tch0 P (tmo2x0 P) (tmo3x0 P) (tmo12x0 P) [])) {}
noncomputable abbrev tst0 (w : World) (os : OsState) : Shared := Shared.mk (thp0 w.params) (Array.mk []) (Drawn.mk 0 0 0 0) 187 os
def tpo0 : Pos := Pos.mk 0 0 0 0
noncomputable def tbt0 (P : Params) : BT := (tnd (boot_o_0 P) (tnd (boot_o_1 P) (tnd (tmo3x0 P) (tnd (boot_o_7 P) tn0 tn0) (tnd (to11 P) tn0 tn0)) (tnd (boot_o_5 P) (tnd (boot_o_9 P) tn0 tn0) (tnd (to13 P) tn0 tn0))) (tnd (tmo2x0 P) (tnd (boot_o_4 P) (tnd (boot_o_8 P) tn0 tn0) (tnd (tmo12x0 P) tn0 tn0)) (tnd (boot_o_6 P) (tnd (boot_o_10 P) tn0 tn0) (tnd (to14 P) tn0 tn0))))
noncomputable abbrev tss0 (w : World) (os : OsState) : SharedT := SharedT.mk (tbt0 w.params) 15 {} (Array.mk []) (Drawn.mk 0 0 0 0) 187 os
noncomputable def tmo2x1 (P : Params) : Obj := oO vN none (.dict (Array.mk [dE P "type.__subclasses__.Exception.0" 232 (vI 46), dE P "type.__subclasses__.Exception.n" 233 (vI 1)]) 2)
noncomputable def tmo3x1 (P : Params) : Obj := oO (.type "dict") none (.dict (Array.mk [dE P "__name__" 165 (vS "postkeep.errors" 194), dE P "__doc__" 166 vN, dE P "__package__" 167 vN, dE P "__loader__" 168 (.builtin "__main__.__loader__#opaque"), dE P "__spec__" 169 vN, dE P "__annotations__" 170 (vR 6), dE P "__builtins__" 171 (vR 4), dE P "__file__" 173 (vS "/claim/cut.py" 172), dE P "__cached__" 174 vN, dE P "_wall" 193 (vR 21), dE P "PostError" 235 (vR 46), dE P "WordFault" 251 (vR 59), dE P "MimeFault" 267 (vR 71), dE P "NameFault" 283 (vR 83)]) 14)
noncomputable def tmo12x1 (P : Params) : Obj := oF [(vI 1), (vI 0), (vR 20), (vI 5), (vI 0), (vR 27), (vI 14), (vI 0), (vR 55), (vI 16), (vI 0), (vR 67), (vI 18), (vI 0), (vR 79)]
noncomputable def tmo46x1 (P : Params) : Obj := Obj.mk (.type "type") none (.cls (cD (sS "PostError") [(.type "Exception")] [(vR 46), (.type "Exception"), (.type "BaseException"), (.type "object")] 45 (sS "PostError") true [] [(vR 59), (vR 71), (vR 83)] false none false)) (Array.mk [(some (vR 22)), none, (some (vS "PostError" 196)), (some (vS "PostError" 204)), (some (.builtin "Exception.__new__")), (some vT)])
noncomputable def thp1 (P : Params) : Heap := Heap.mk (Array.mk (tch0 P (tmo2x1 P) (tmo3x1 P) (tmo12x1 P) (tch1 P (tmo46x1 P) []))) {}
noncomputable abbrev tst1 (w : World) (os : OsState) : Shared := Shared.mk (thp1 w.params) (Array.mk []) (Drawn.mk 0 0 0 0) 284 os
def tpo1 : Pos := Pos.mk 18 0 19 8
noncomputable def tbt1 (P : Params) : BT := (tnd (boot_o_0 P) (tnd (boot_o_1 P) (tnd (tmo3x1 P) (tnd (boot_o_7 P) (tnd (to15 P) (tnd (to31 P) (tnd (to63 P) tn0 tn0) tn0) (tnd (to47 P) (tnd (to79 P) tn0 tn0) tn0)) (tnd (to23 P) (tnd (to39 P) (tnd (to71 P) tn0 tn0) tn0) (tnd (to55 P) tn0 tn0))) (tnd (to11 P) (tnd (to19 P) (tnd (to35 P) (tnd (to67 P) tn0 tn0) tn0) (tnd (to51 P) (tnd (to83 P) tn0 tn0) tn0)) (tnd (to27 P) (tnd (to43 P) (tnd (to75 P) tn0 tn0) tn0) (tnd (to59 P) tn0 tn0)))) (tnd (boot_o_5 P) (tnd (boot_o_9 P) (tnd (to17 P) (tnd (to33 P) (tnd (to65 P) tn0 tn0) tn0) (tnd (to49 P) (tnd (to81 P) tn0 tn0) tn0)) (tnd (to25 P) (tnd (to41 P) (tnd (to73 P) tn0 tn0) tn0) (tnd (to57 P) tn0 tn0))) (tnd (to13 P) (tnd (to21 P) (tnd (to37 P) (tnd (to69 P) tn0 tn0) tn0) (tnd (to53 P) (tnd (to85 P) tn0 tn0) tn0)) (tnd (to29 P) (tnd (to45 P) (tnd (to77 P) tn0 tn0) tn0) (tnd (to61 P) tn0 tn0))))) (tnd (tmo2x1 P) (tnd (boot_o_4 P) (tnd (boot_o_8 P) (tnd (to16 P) (tnd (to32 P) (tnd (to64 P) tn0 tn0) tn0) (tnd (to48 P) (tnd (to80 P) tn0 tn0) tn0)) (tnd (to24 P) (tnd (to40 P) (tnd (to72 P) tn0 tn0) tn0) (tnd (to56 P) tn0 tn0))) (tnd (tmo12x1 P) (tnd (to20 P) (tnd (to36 P) (tnd (to68 P) tn0 tn0) tn0) (tnd (to52 P) (tnd (to84 P) tn0 tn0) tn0)) (tnd (to28 P) (tnd (to44 P) (tnd (to76 P) tn0 tn0) tn0) (tnd (to60 P) tn0 tn0)))) (tnd (boot_o_6 P) (tnd (boot_o_10 P) (tnd (to18 P) (tnd (to34 P) (tnd (to66 P) tn0 tn0) tn0) (tnd (to50 P) (tnd (to82 P) tn0 tn0) tn0)) (tnd (to26 P) (tnd (to42 P) (tnd (to74 P) tn0 tn0) tn0) (tnd (to58 P) tn0 tn0))) (tnd (to14 P) (tnd (to22 P) (tnd (to38 P) (tnd (to70 P) tn0 tn0) tn0) (tnd (to54 P) tn0 tn0)) (tnd (to30 P) (tnd (tmo46x1 P) (tnd (to78 P) tn0 tn0) tn0) (tnd (to62 P) tn0 tn0))))))
noncomputable abbrev tss1 (w : World) (os : OsState) : SharedT := SharedT.mk (tbt1 w.params) 86 {} (Array.mk []) (Drawn.mk 0 0 0 0) 284 os
noncomputable def tmo2x2 (P : Params) : Obj := oO vN none (.dict (Array.mk [dE P "type.__subclasses__.Exception.0" 232 (vI 46), dE P "type.__subclasses__.Exception.n" 233 (vI 1)]) 2)
noncomputable def tmo3x2 (P : Params) : Obj := oO (.type "dict") none (.dict (Array.mk [dE P "__name__" 165 (vS "postkeep.octets" 466), dE P "__doc__" 166 vN, dE P "__package__" 167 vN, dE P "__loader__" 168 (.builtin "__main__.__loader__#opaque"), dE P "__spec__" 169 vN, dE P "__annotations__" 170 (vR 6), dE P "__builtins__" 171 (vR 4), dE P "__file__" 173 (vS "/claim/cut.py" 172), dE P "__cached__" 174 vN, dE P "_wall" 193 (vR 21), dE P "PostError" 235 (vR 46), dE P "WordFault" 251 (vR 59), dE P "MimeFault" 267 (vR 71), dE P "NameFault" 283 (vR 83), dE P "SetFault" 299 (vR 95), dE P "WireFault" 315 (vR 107), dE P "worth_table" 323 (vR 114), dE P "group_codes" 329 (vR 119), dE P "group_octets" 335 (vR 124), dE P "part_encoded" 345 (vR 131), dE P "part_numbers" 355 (vR 138), dE P "part_decoded" 369 (vR 145), dE P "SHIFT_SIGNS" 373 (.bytes (Array.mk [65, 66, 67, 68, 69, 70, 71, 72, 73, 74, 75, 76, 77, 78, 79, 80, 81, 82, 83, 84, 85, 86, 87, 88, 89, 90, 97, 98, 99, 100, 101, 102, 103, 104, 105, 106, 107, 108, 109, 110, 111, 112, 113, 114, 115, 116, 117, 118, 119, 120, 121, 122, 48, 49, 50, 51, 52, 53, 54, 55, 56, 57, 43, 44]) 372), dE P "is_plain_code" 380 (vR 152), dE P "is_half" 387 (vR 159), dE P "utf16_octets" 400 (vR 166), dE P "run_behind" 409 (vR 173), dE P "utf7_octets" 420 (vR 180), dE P "shift_behind" 429 (vR 187), dE P "units_text" 442 (vR 194), dE P "shifted_text" 453 (vR 201), dE P "utf7_text" 465 (vR 208), dE P "CRLF" 469 (.bytes (Array.mk [13, 10]) 468), dE P "lower_code" 476 (vR 215), dE P "lower" 482 (vR 220), dE P "lower_text" 488 (vR 225)]) 36)
noncomputable def tmo12x2 (P : Params) : Obj := oF [(vI 1), (vI 0), (vR 20), (vI 5), (vI 0), (vR 27), (vI 14), (vI 0), (vR 55), (vI 16), (vI 0), (vR 67), (vI 18), (vI 0), (vR 79), (vI 20), (vI 0), (vR 91), (vI 22), (vI 0), (vR 103), (vI 25), (vI 0), (vR 113), (vI 27), (vI 0), (vR 118), (vI 34), (vI 0), (vR 123), (vI 42), (vI 0), (vR 130), (vI 47), (vI 0), (vR 137), (vI 54), (vI 0), (vR 144), (vI 68), (vI 0), (vR 151), (vI 70), (vI 0), (vR 158), (vI 72), (vI 0), (vR 165), (vI 86), (vI 0), (vR 172), (vI 91), (vI 0), (vR 179), (vI 108), (vI 0), (vR 186), (vI 115), (vI 0), (vR 193), (vI 137), (vI 0), (vR 200), (vI 145), (vI 0), (vR 207), (vI 169), (vI 0), (vR 214), (vI 171), (vI 0), (vR 219), (vI 173), (vI 0), (vR 224)]
noncomputable def tmo46x2 (P : Params) : Obj := Obj.mk (.type "type") none (.cls (cD (sS "PostError") [(.type "Exception")] [(vR 46), (.type "Exception"), (.type "BaseException"), (.type "object")] 45 (sS "PostError") true [] [(vR 59), (vR 71), (vR 83), (vR 95), (vR 107)] false none false)) (Array.mk [(some (vR 22)), none, (some (vS "PostError" 196)), (some (vS "PostError" 204)), (some (.builtin "Exception.__new__")), (some vT)])
noncomputable def thp2 (P : Params) : Heap := Heap.mk (Array.mk (tch0 P (tmo2x2 P) (tmo3x2 P) (tmo12x2 P) (tch1 P (tmo46x2 P) (tch2 P  [])))) {}
noncomputable abbrev tst2 (w : World) (os : OsState) : Shared := Shared.mk (thp2 w.params) (Array.mk []) (Drawn.mk 0 0 0 0) 489 os
def tpo2 : Pos := Pos.mk 173 0 174 65
noncomputable def tbt2 (P : Params) : BT := (tnd (boot_o_0 P) (tnd (boot_o_1 P) (tnd (tmo3x2 P) (tnd (boot_o_7 P) (tnd (to15 P) (tnd (to31 P) (tnd (to63 P) (tnd (to127 P) tn0 tn0) (tnd (to191 P) tn0 tn0)) (tnd (to95 P) (tnd (to159 P) tn0 tn0) (tnd (to223 P) tn0 tn0))) (tnd (to47 P) (tnd (to79 P) (tnd (to143 P) tn0 tn0) (tnd (to207 P) tn0 tn0)) (tnd (to111 P) (tnd (to175 P) tn0 tn0) tn0))) (tnd (to23 P) (tnd (to39 P) (tnd (to71 P) (tnd (to135 P) tn0 tn0) (tnd (to199 P) tn0 tn0)) (tnd (to103 P) (tnd (to167 P) tn0 tn0) tn0)) (tnd (to55 P) (tnd (to87 P) (tnd (to151 P) tn0 tn0) (tnd (to215 P) tn0 tn0)) (tnd (to119 P) (tnd (to183 P) tn0 tn0) tn0)))) (tnd (to11 P) (tnd (to19 P) (tnd (to35 P) (tnd (to67 P) (tnd (to131 P) tn0 tn0) (tnd (to195 P) tn0 tn0)) (tnd (to99 P) (tnd (to163 P) tn0 tn0) tn0)) (tnd (to51 P) (tnd (to83 P) (tnd (to147 P) tn0 tn0) (tnd (to211 P) tn0 tn0)) (tnd (to115 P) (tnd (to179 P) tn0 tn0) tn0))) (tnd (to27 P) (tnd (to43 P) (tnd (to75 P) (tnd (to139 P) tn0 tn0) (tnd (to203 P) tn0 tn0)) (tnd (to107 P) (tnd (to171 P) tn0 tn0) tn0)) (tnd (to59 P) (tnd (to91 P) (tnd (to155 P) tn0 tn0) (tnd (to219 P) tn0 tn0)) (tnd (to123 P) (tnd (to187 P) tn0 tn0) tn0))))) (tnd (boot_o_5 P) (tnd (boot_o_9 P) (tnd (to17 P) (tnd (to33 P) (tnd (to65 P) (tnd (to129 P) tn0 tn0) (tnd (to193 P) tn0 tn0)) (tnd (to97 P) (tnd (to161 P) tn0 tn0) (tnd (to225 P) tn0 tn0))) (tnd (to49 P) (tnd (to81 P) (tnd (to145 P) tn0 tn0) (tnd (to209 P) tn0 tn0)) (tnd (to113 P) (tnd (to177 P) tn0 tn0) tn0))) (tnd (to25 P) (tnd (to41 P) (tnd (to73 P) (tnd (to137 P) tn0 tn0) (tnd (to201 P) tn0 tn0)) (tnd (to105 P) (tnd (to169 P) tn0 tn0) tn0)) (tnd (to57 P) (tnd (to89 P) (tnd (to153 P) tn0 tn0) (tnd (to217 P) tn0 tn0)) (tnd (to121 P) (tnd (to185 P) tn0 tn0) tn0)))) (tnd (to13 P) (tnd (to21 P) (tnd (to37 P) (tnd (to69 P) (tnd (to133 P) tn0 tn0) (tnd (to197 P) tn0 tn0)) (tnd (to101 P) (tnd (to165 P) tn0 tn0) tn0)) (tnd (to53 P) (tnd (to85 P) (tnd (to149 P) tn0 tn0) (tnd (to213 P) tn0 tn0)) (tnd (to117 P) (tnd (to181 P) tn0 tn0) tn0))) (tnd (to29 P) (tnd (to45 P) (tnd (to77 P) (tnd (to141 P) tn0 tn0) (tnd (to205 P) tn0 tn0)) (tnd (to109 P) (tnd (to173 P) tn0 tn0) tn0)) (tnd (to61 P) (tnd (to93 P) (tnd (to157 P) tn0 tn0) (tnd (to221 P) tn0 tn0)) (tnd (to125 P) (tnd (to189 P) tn0 tn0) tn0)))))) (tnd (tmo2x2 P) (tnd (boot_o_4 P) (tnd (boot_o_8 P) (tnd (to16 P) (tnd (to32 P) (tnd (to64 P) (tnd (to128 P) tn0 tn0) (tnd (to192 P) tn0 tn0)) (tnd (to96 P) (tnd (to160 P) tn0 tn0) (tnd (to224 P) tn0 tn0))) (tnd (to48 P) (tnd (to80 P) (tnd (to144 P) tn0 tn0) (tnd (to208 P) tn0 tn0)) (tnd (to112 P) (tnd (to176 P) tn0 tn0) tn0))) (tnd (to24 P) (tnd (to40 P) (tnd (to72 P) (tnd (to136 P) tn0 tn0) (tnd (to200 P) tn0 tn0)) (tnd (to104 P) (tnd (to168 P) tn0 tn0) tn0)) (tnd (to56 P) (tnd (to88 P) (tnd (to152 P) tn0 tn0) (tnd (to216 P) tn0 tn0)) (tnd (to120 P) (tnd (to184 P) tn0 tn0) tn0)))) (tnd (tmo12x2 P) (tnd (to20 P) (tnd (to36 P) (tnd (to68 P) (tnd (to132 P) tn0 tn0) (tnd (to196 P) tn0 tn0)) (tnd (to100 P) (tnd (to164 P) tn0 tn0) tn0)) (tnd (to52 P) (tnd (to84 P) (tnd (to148 P) tn0 tn0) (tnd (to212 P) tn0 tn0)) (tnd (to116 P) (tnd (to180 P) tn0 tn0) tn0))) (tnd (to28 P) (tnd (to44 P) (tnd (to76 P) (tnd (to140 P) tn0 tn0) (tnd (to204 P) tn0 tn0)) (tnd (to108 P) (tnd (to172 P) tn0 tn0) tn0)) (tnd (to60 P) (tnd (to92 P) (tnd (to156 P) tn0 tn0) (tnd (to220 P) tn0 tn0)) (tnd (to124 P) (tnd (to188 P) tn0 tn0) tn0))))) (tnd (boot_o_6 P) (tnd (boot_o_10 P) (tnd (to18 P) (tnd (to34 P) (tnd (to66 P) (tnd (to130 P) tn0 tn0) (tnd (to194 P) tn0 tn0)) (tnd (to98 P) (tnd (to162 P) tn0 tn0) tn0)) (tnd (to50 P) (tnd (to82 P) (tnd (to146 P) tn0 tn0) (tnd (to210 P) tn0 tn0)) (tnd (to114 P) (tnd (to178 P) tn0 tn0) tn0))) (tnd (to26 P) (tnd (to42 P) (tnd (to74 P) (tnd (to138 P) tn0 tn0) (tnd (to202 P) tn0 tn0)) (tnd (to106 P) (tnd (to170 P) tn0 tn0) tn0)) (tnd (to58 P) (tnd (to90 P) (tnd (to154 P) tn0 tn0) (tnd (to218 P) tn0 tn0)) (tnd (to122 P) (tnd (to186 P) tn0 tn0) tn0)))) (tnd (to14 P) (tnd (to22 P) (tnd (to38 P) (tnd (to70 P) (tnd (to134 P) tn0 tn0) (tnd (to198 P) tn0 tn0)) (tnd (to102 P) (tnd (to166 P) tn0 tn0) tn0)) (tnd (to54 P) (tnd (to86 P) (tnd (to150 P) tn0 tn0) (tnd (to214 P) tn0 tn0)) (tnd (to118 P) (tnd (to182 P) tn0 tn0) tn0))) (tnd (to30 P) (tnd (tmo46x2 P) (tnd (to78 P) (tnd (to142 P) tn0 tn0) (tnd (to206 P) tn0 tn0)) (tnd (to110 P) (tnd (to174 P) tn0 tn0) tn0)) (tnd (to62 P) (tnd (to94 P) (tnd (to158 P) tn0 tn0) (tnd (to222 P) tn0 tn0)) (tnd (to126 P) (tnd (to190 P) tn0 tn0) tn0)))))))
noncomputable abbrev tss2 (w : World) (os : OsState) : SharedT := SharedT.mk (tbt2 w.params) 226 {} (Array.mk []) (Drawn.mk 0 0 0 0) 489 os
noncomputable def tmo2x3 (P : Params) : Obj := oO vN none (.dict (Array.mk [dE P "type.__subclasses__.Exception.0" 232 (vI 46), dE P "type.__subclasses__.Exception.n" 233 (vI 1)]) 2)
noncomputable def tmo3x3 (P : Params) : Obj := oO (.type "dict") none (.dict (Array.mk [dE P "__name__" 165 (vS "postkeep.wire" 552), dE P "__doc__" 166 vN, dE P "__package__" 167 vN, dE P "__loader__" 168 (.builtin "__main__.__loader__#opaque"), dE P "__spec__" 169 vN, dE P "__annotations__" 170 (vR 6), dE P "__builtins__" 171 (vR 4), dE P "__file__" 173 (vS "/claim/cut.py" 172), dE P "__cached__" 174 vN, dE P "_wall" 193 (vR 21), dE P "PostError" 235 (vR 46), dE P "WordFault" 251 (vR 59), dE P "MimeFault" 267 (vR 71), dE P "NameFault" 283 (vR 83), dE P "SetFault" 299 (vR 95), dE P "WireFault" 315 (vR 107), dE P "worth_table" 323 (vR 114), dE P "group_codes" 329 (vR 119), dE P "group_octets" 335 (vR 124), dE P "part_encoded" 345 (vR 131), dE P "part_numbers" 355 (vR 138), dE P "part_decoded" 369 (vR 145), dE P "SHIFT_SIGNS" 373 (.bytes (Array.mk [65, 66, 67, 68, 69, 70, 71, 72, 73, 74, 75, 76, 77, 78, 79, 80, 81, 82, 83, 84, 85, 86, 87, 88, 89, 90, 97, 98, 99, 100, 101, 102, 103, 104, 105, 106, 107, 108, 109, 110, 111, 112, 113, 114, 115, 116, 117, 118, 119, 120, 121, 122, 48, 49, 50, 51, 52, 53, 54, 55, 56, 57, 43, 44]) 372), dE P "is_plain_code" 380 (vR 152), dE P "is_half" 387 (vR 159), dE P "utf16_octets" 400 (vR 166), dE P "run_behind" 409 (vR 173), dE P "utf7_octets" 420 (vR 180), dE P "shift_behind" 429 (vR 187), dE P "units_text" 442 (vR 194), dE P "shifted_text" 453 (vR 201), dE P "utf7_text" 465 (vR 208), dE P "CRLF" 469 (.bytes (Array.mk [13, 10]) 468), dE P "lower_code" 476 (vR 215), dE P "lower" 482 (vR 220), dE P "lower_text" 488 (vR 225), dE P "upper_text" 494 (vR 230), dE P "ascii_text" 500 (vR 235), dE P "text_octets" 506 (vR 240), dE P "MOST" 510 (.int 4294967295 509), dE P "read_end" 520 (vR 247), dE P "read_set" 531 (vR 254), dE P "show_end" 538 (vR 261), dE P "show_pair" 545 (vR 268), dE P "show_set" 551 (vR 273), dE P "QUOTE" 555 (.int 34 554), dE P "BACKSLASH" 557 (.int 92 556), dE P "MOST_DEPTH" 559 (.int 30 558), dE P "MOST_FIGURES" 561 (.int 19 560), dE P "MOST_COUNT_FIGURES" 563 (.int 10 562), dE P "MOST_QUOTED" 565 (.int 72 564), dE P "SPECIALS" 567 (.bytes (Array.mk [40, 41, 123, 37, 42, 34, 92, 93]) 566), dE P "VALUE_SPECIALS" 569 (.bytes (Array.mk [40, 41, 123, 34, 93]) 568), dE P "Atom" 605 (vR 297), dE P "is_printable" 612 (vR 308), dE P "is_atom_code" 619 (vR 315), dE P "is_astring_code" 626 (vR 322), dE P "is_tag_code" 633 (vR 329), dE P "is_value_code" 640 (vR 336), dE P "is_set_code" 647 (vR 343), dE P "is_figure" 654 (vR 350), dE P "number_of_figures" 663 (vR 357), dE P "figures_of" 670 (vR 364)]) 63)
noncomputable def tmo12x3 (P : Params) : Obj := oF [(vI 1), (vI 0), (vR 20), (vI 5), (vI 0), (vR 27), (vI 14), (vI 0), (vR 55), (vI 16), (vI 0), (vR 67), (vI 18), (vI 0), (vR 79), (vI 20), (vI 0), (vR 91), (vI 22), (vI 0), (vR 103), (vI 25), (vI 0), (vR 113), (vI 27), (vI 0), (vR 118), (vI 34), (vI 0), (vR 123), (vI 42), (vI 0), (vR 130), (vI 47), (vI 0), (vR 137), (vI 54), (vI 0), (vR 144), (vI 68), (vI 0), (vR 151), (vI 70), (vI 0), (vR 158), (vI 72), (vI 0), (vR 165), (vI 86), (vI 0), (vR 172), (vI 91), (vI 0), (vR 179), (vI 108), (vI 0), (vR 186), (vI 115), (vI 0), (vR 193), (vI 137), (vI 0), (vR 200), (vI 145), (vI 0), (vR 207), (vI 169), (vI 0), (vR 214), (vI 171), (vI 0), (vR 219), (vI 173), (vI 0), (vR 224), (vI 175), (vI 0), (vR 229), (vI 177), (vI 0), (vR 234), (vI 182), (vI 0), (vR 239), (vI 189), (vI 0), (vR 246), (vI 204), (vI 0), (vR 253), (vI 218), (vI 0), (vR 260), (vI 222), (vI 0), (vR 267), (vI 226), (vI 0), (vR 272), (vI 237), (vI 0), (vR 279), (vI 244), (vI 0), (vR 307), (vI 246), (vI 0), (vR 314), (vI 248), (vI 0), (vR 321), (vI 250), (vI 0), (vR 328), (vI 252), (vI 0), (vR 335), (vI 254), (vI 0), (vR 342), (vI 256), (vI 0), (vR 349), (vI 258), (vI 0), (vR 356), (vI 263), (vI 0), (vR 363)]
noncomputable def tmo46x3 (P : Params) : Obj := Obj.mk (.type "type") none (.cls (cD (sS "PostError") [(.type "Exception")] [(vR 46), (.type "Exception"), (.type "BaseException"), (.type "object")] 45 (sS "PostError") true [] [(vR 59), (vR 71), (vR 83), (vR 95), (vR 107)] false none false)) (Array.mk [(some (vR 22)), none, (some (vS "PostError" 196)), (some (vS "PostError" 204)), (some (.builtin "Exception.__new__")), (some vT)])
noncomputable def thp3 (P : Params) : Heap := Heap.mk (Array.mk (tch0 P (tmo2x3 P) (tmo3x3 P) (tmo12x3 P) (tch1 P (tmo46x3 P) (tch2 P  (tch3 P  []))))) {}
noncomputable abbrev tst3 (w : World) (os : OsState) : Shared := Shared.mk (thp3 w.params) (Array.mk []) (Drawn.mk 0 0 0 0) 671 os
def tpo3 : Pos := Pos.mk 263 0 266 35
noncomputable def tbt3 (P : Params) : BT := (tnd (boot_o_0 P) (tnd (boot_o_1 P) (tnd (tmo3x3 P) (tnd (boot_o_7 P) (tnd (to15 P) (tnd (to31 P) (tnd (to63 P) (tnd (to127 P) (tnd (to255 P) tn0 tn0) tn0) (tnd (to191 P) (tnd (to319 P) tn0 tn0) tn0)) (tnd (to95 P) (tnd (to159 P) (tnd (to287 P) tn0 tn0) tn0) (tnd (to223 P) (tnd (to351 P) tn0 tn0) tn0))) (tnd (to47 P) (tnd (to79 P) (tnd (to143 P) (tnd (to271 P) tn0 tn0) tn0) (tnd (to207 P) (tnd (to335 P) tn0 tn0) tn0)) (tnd (to111 P) (tnd (to175 P) (tnd (to303 P) tn0 tn0) tn0) (tnd (to239 P) tn0 tn0)))) (tnd (to23 P) (tnd (to39 P) (tnd (to71 P) (tnd (to135 P) (tnd (to263 P) tn0 tn0) tn0) (tnd (to199 P) (tnd (to327 P) tn0 tn0) tn0)) (tnd (to103 P) (tnd (to167 P) (tnd (to295 P) tn0 tn0) tn0) (tnd (to231 P) (tnd (to359 P) tn0 tn0) tn0))) (tnd (to55 P) (tnd (to87 P) (tnd (to151 P) (tnd (to279 P) tn0 tn0) tn0) (tnd (to215 P) (tnd (to343 P) tn0 tn0) tn0)) (tnd (to119 P) (tnd (to183 P) (tnd (to311 P) tn0 tn0) tn0) (tnd (to247 P) tn0 tn0))))) (tnd (to11 P) (tnd (to19 P) (tnd (to35 P) (tnd (to67 P) (tnd (to131 P) (tnd (to259 P) tn0 tn0) tn0) (tnd (to195 P) (tnd (to323 P) tn0 tn0) tn0)) (tnd (to99 P) (tnd (to163 P) (tnd (to291 P) tn0 tn0) tn0) (tnd (to227 P) (tnd (to355 P) tn0 tn0) tn0))) (tnd (to51 P) (tnd (to83 P) (tnd (to147 P) (tnd (to275 P) tn0 tn0) tn0) (tnd (to211 P) (tnd (to339 P) tn0 tn0) tn0)) (tnd (to115 P) (tnd (to179 P) (tnd (to307 P) tn0 tn0) tn0) (tnd (to243 P) tn0 tn0)))) (tnd (to27 P) (tnd (to43 P) (tnd (to75 P) (tnd (to139 P) (tnd (to267 P) tn0 tn0) tn0) (tnd (to203 P) (tnd (to331 P) tn0 tn0) tn0)) (tnd (to107 P) (tnd (to171 P) (tnd (to299 P) tn0 tn0) tn0) (tnd (to235 P) (tnd (to363 P) tn0 tn0) tn0))) (tnd (to59 P) (tnd (to91 P) (tnd (to155 P) (tnd (to283 P) tn0 tn0) tn0) (tnd (to219 P) (tnd (to347 P) tn0 tn0) tn0)) (tnd (to123 P) (tnd (to187 P) (tnd (to315 P) tn0 tn0) tn0) (tnd (to251 P) tn0 tn0)))))) (tnd (boot_o_5 P) (tnd (boot_o_9 P) (tnd (to17 P) (tnd (to33 P) (tnd (to65 P) (tnd (to129 P) (tnd (to257 P) tn0 tn0) tn0) (tnd (to193 P) (tnd (to321 P) tn0 tn0) tn0)) (tnd (to97 P) (tnd (to161 P) (tnd (to289 P) tn0 tn0) tn0) (tnd (to225 P) (tnd (to353 P) tn0 tn0) tn0))) (tnd (to49 P) (tnd (to81 P) (tnd (to145 P) (tnd (to273 P) tn0 tn0) tn0) (tnd (to209 P) (tnd (to337 P) tn0 tn0) tn0)) (tnd (to113 P) (tnd (to177 P) (tnd (to305 P) tn0 tn0) tn0) (tnd (to241 P) tn0 tn0)))) (tnd (to25 P) (tnd (to41 P) (tnd (to73 P) (tnd (to137 P) (tnd (to265 P) tn0 tn0) tn0) (tnd (to201 P) (tnd (to329 P) tn0 tn0) tn0)) (tnd (to105 P) (tnd (to169 P) (tnd (to297 P) tn0 tn0) tn0) (tnd (to233 P) (tnd (to361 P) tn0 tn0) tn0))) (tnd (to57 P) (tnd (to89 P) (tnd (to153 P) (tnd (to281 P) tn0 tn0) tn0) (tnd (to217 P) (tnd (to345 P) tn0 tn0) tn0)) (tnd (to121 P) (tnd (to185 P) (tnd (to313 P) tn0 tn0) tn0) (tnd (to249 P) tn0 tn0))))) (tnd (to13 P) (tnd (to21 P) (tnd (to37 P) (tnd (to69 P) (tnd (to133 P) (tnd (to261 P) tn0 tn0) tn0) (tnd (to197 P) (tnd (to325 P) tn0 tn0) tn0)) (tnd (to101 P) (tnd (to165 P) (tnd (to293 P) tn0 tn0) tn0) (tnd (to229 P) (tnd (to357 P) tn0 tn0) tn0))) (tnd (to53 P) (tnd (to85 P) (tnd (to149 P) (tnd (to277 P) tn0 tn0) tn0) (tnd (to213 P) (tnd (to341 P) tn0 tn0) tn0)) (tnd (to117 P) (tnd (to181 P) (tnd (to309 P) tn0 tn0) tn0) (tnd (to245 P) tn0 tn0)))) (tnd (to29 P) (tnd (to45 P) (tnd (to77 P) (tnd (to141 P) (tnd (to269 P) tn0 tn0) tn0) (tnd (to205 P) (tnd (to333 P) tn0 tn0) tn0)) (tnd (to109 P) (tnd (to173 P) (tnd (to301 P) tn0 tn0) tn0) (tnd (to237 P) tn0 tn0))) (tnd (to61 P) (tnd (to93 P) (tnd (to157 P) (tnd (to285 P) tn0 tn0) tn0) (tnd (to221 P) (tnd (to349 P) tn0 tn0) tn0)) (tnd (to125 P) (tnd (to189 P) (tnd (to317 P) tn0 tn0) tn0) (tnd (to253 P) tn0 tn0))))))) (tnd (tmo2x3 P) (tnd (boot_o_4 P) (tnd (boot_o_8 P) (tnd (to16 P) (tnd (to32 P) (tnd (to64 P) (tnd (to128 P) (tnd (to256 P) tn0 tn0) tn0) (tnd (to192 P) (tnd (to320 P) tn0 tn0) tn0)) (tnd (to96 P) (tnd (to160 P) (tnd (to288 P) tn0 tn0) tn0) (tnd (to224 P) (tnd (to352 P) tn0 tn0) tn0))) (tnd (to48 P) (tnd (to80 P) (tnd (to144 P) (tnd (to272 P) tn0 tn0) tn0) (tnd (to208 P) (tnd (to336 P) tn0 tn0) tn0)) (tnd (to112 P) (tnd (to176 P) (tnd (to304 P) tn0 tn0) tn0) (tnd (to240 P) tn0 tn0)))) (tnd (to24 P) (tnd (to40 P) (tnd (to72 P) (tnd (to136 P) (tnd (to264 P) tn0 tn0) tn0) (tnd (to200 P) (tnd (to328 P) tn0 tn0) tn0)) (tnd (to104 P) (tnd (to168 P) (tnd (to296 P) tn0 tn0) tn0) (tnd (to232 P) (tnd (to360 P) tn0 tn0) tn0))) (tnd (to56 P) (tnd (to88 P) (tnd (to152 P) (tnd (to280 P) tn0 tn0) tn0) (tnd (to216 P) (tnd (to344 P) tn0 tn0) tn0)) (tnd (to120 P) (tnd (to184 P) (tnd (to312 P) tn0 tn0) tn0) (tnd (to248 P) tn0 tn0))))) (tnd (tmo12x3 P) (tnd (to20 P) (tnd (to36 P) (tnd (to68 P) (tnd (to132 P) (tnd (to260 P) tn0 tn0) tn0) (tnd (to196 P) (tnd (to324 P) tn0 tn0) tn0)) (tnd (to100 P) (tnd (to164 P) (tnd (to292 P) tn0 tn0) tn0) (tnd (to228 P) (tnd (to356 P) tn0 tn0) tn0))) (tnd (to52 P) (tnd (to84 P) (tnd (to148 P) (tnd (to276 P) tn0 tn0) tn0) (tnd (to212 P) (tnd (to340 P) tn0 tn0) tn0)) (tnd (to116 P) (tnd (to180 P) (tnd (to308 P) tn0 tn0) tn0) (tnd (to244 P) tn0 tn0)))) (tnd (to28 P) (tnd (to44 P) (tnd (to76 P) (tnd (to140 P) (tnd (to268 P) tn0 tn0) tn0) (tnd (to204 P) (tnd (to332 P) tn0 tn0) tn0)) (tnd (to108 P) (tnd (to172 P) (tnd (to300 P) tn0 tn0) tn0) (tnd (to236 P) (tnd (to364 P) tn0 tn0) tn0))) (tnd (to60 P) (tnd (to92 P) (tnd (to156 P) (tnd (to284 P) tn0 tn0) tn0) (tnd (to220 P) (tnd (to348 P) tn0 tn0) tn0)) (tnd (to124 P) (tnd (to188 P) (tnd (to316 P) tn0 tn0) tn0) (tnd (to252 P) tn0 tn0)))))) (tnd (boot_o_6 P) (tnd (boot_o_10 P) (tnd (to18 P) (tnd (to34 P) (tnd (to66 P) (tnd (to130 P) (tnd (to258 P) tn0 tn0) tn0) (tnd (to194 P) (tnd (to322 P) tn0 tn0) tn0)) (tnd (to98 P) (tnd (to162 P) (tnd (to290 P) tn0 tn0) tn0) (tnd (to226 P) (tnd (to354 P) tn0 tn0) tn0))) (tnd (to50 P) (tnd (to82 P) (tnd (to146 P) (tnd (to274 P) tn0 tn0) tn0) (tnd (to210 P) (tnd (to338 P) tn0 tn0) tn0)) (tnd (to114 P) (tnd (to178 P) (tnd (to306 P) tn0 tn0) tn0) (tnd (to242 P) tn0 tn0)))) (tnd (to26 P) (tnd (to42 P) (tnd (to74 P) (tnd (to138 P) (tnd (to266 P) tn0 tn0) tn0) (tnd (to202 P) (tnd (to330 P) tn0 tn0) tn0)) (tnd (to106 P) (tnd (to170 P) (tnd (to298 P) tn0 tn0) tn0) (tnd (to234 P) (tnd (to362 P) tn0 tn0) tn0))) (tnd (to58 P) (tnd (to90 P) (tnd (to154 P) (tnd (to282 P) tn0 tn0) tn0) (tnd (to218 P) (tnd (to346 P) tn0 tn0) tn0)) (tnd (to122 P) (tnd (to186 P) (tnd (to314 P) tn0 tn0) tn0) (tnd (to250 P) tn0 tn0))))) (tnd (to14 P) (tnd (to22 P) (tnd (to38 P) (tnd (to70 P) (tnd (to134 P) (tnd (to262 P) tn0 tn0) tn0) (tnd (to198 P) (tnd (to326 P) tn0 tn0) tn0)) (tnd (to102 P) (tnd (to166 P) (tnd (to294 P) tn0 tn0) tn0) (tnd (to230 P) (tnd (to358 P) tn0 tn0) tn0))) (tnd (to54 P) (tnd (to86 P) (tnd (to150 P) (tnd (to278 P) tn0 tn0) tn0) (tnd (to214 P) (tnd (to342 P) tn0 tn0) tn0)) (tnd (to118 P) (tnd (to182 P) (tnd (to310 P) tn0 tn0) tn0) (tnd (to246 P) tn0 tn0)))) (tnd (to30 P) (tnd (tmo46x3 P) (tnd (to78 P) (tnd (to142 P) (tnd (to270 P) tn0 tn0) tn0) (tnd (to206 P) (tnd (to334 P) tn0 tn0) tn0)) (tnd (to110 P) (tnd (to174 P) (tnd (to302 P) tn0 tn0) tn0) (tnd (to238 P) tn0 tn0))) (tnd (to62 P) (tnd (to94 P) (tnd (to158 P) (tnd (to286 P) tn0 tn0) tn0) (tnd (to222 P) (tnd (to350 P) tn0 tn0) tn0)) (tnd (to126 P) (tnd (to190 P) (tnd (to318 P) tn0 tn0) tn0) (tnd (to254 P) tn0 tn0))))))))
noncomputable abbrev tss3 (w : World) (os : OsState) : SharedT := SharedT.mk (tbt3 w.params) 365 {} (Array.mk []) (Drawn.mk 0 0 0 0) 671 os
noncomputable def tmo2x4 (P : Params) : Obj := oO vN none (.dict (Array.mk [dE P "type.__subclasses__.Exception.0" 232 (vI 46), dE P "type.__subclasses__.Exception.n" 233 (vI 1)]) 2)
noncomputable def tmo3x4 (P : Params) : Obj := oO (.type "dict") none (.dict (Array.mk [dE P "__name__" 165 (vS "postkeep.wire" 552), dE P "__doc__" 166 vN, dE P "__package__" 167 vN, dE P "__loader__" 168 (.builtin "__main__.__loader__#opaque"), dE P "__spec__" 169 vN, dE P "__annotations__" 170 (vR 6), dE P "__builtins__" 171 (vR 4), dE P "__file__" 173 (vS "/claim/cut.py" 172), dE P "__cached__" 174 vN, dE P "_wall" 193 (vR 21), dE P "PostError" 235 (vR 46), dE P "WordFault" 251 (vR 59), dE P "MimeFault" 267 (vR 71), dE P "NameFault" 283 (vR 83), dE P "SetFault" 299 (vR 95), dE P "WireFault" 315 (vR 107), dE P "worth_table" 323 (vR 114), dE P "group_codes" 329 (vR 119), dE P "group_octets" 335 (vR 124), dE P "part_encoded" 345 (vR 131), dE P "part_numbers" 355 (vR 138), dE P "part_decoded" 369 (vR 145), dE P "SHIFT_SIGNS" 373 (.bytes (Array.mk [65, 66, 67, 68, 69, 70, 71, 72, 73, 74, 75, 76, 77, 78, 79, 80, 81, 82, 83, 84, 85, 86, 87, 88, 89, 90, 97, 98, 99, 100, 101, 102, 103, 104, 105, 106, 107, 108, 109, 110, 111, 112, 113, 114, 115, 116, 117, 118, 119, 120, 121, 122, 48, 49, 50, 51, 52, 53, 54, 55, 56, 57, 43, 44]) 372), dE P "is_plain_code" 380 (vR 152), dE P "is_half" 387 (vR 159), dE P "utf16_octets" 400 (vR 166), dE P "run_behind" 409 (vR 173), dE P "utf7_octets" 420 (vR 180), dE P "shift_behind" 429 (vR 187), dE P "units_text" 442 (vR 194), dE P "shifted_text" 453 (vR 201), dE P "utf7_text" 465 (vR 208), dE P "CRLF" 469 (.bytes (Array.mk [13, 10]) 468), dE P "lower_code" 476 (vR 215), dE P "lower" 482 (vR 220), dE P "lower_text" 488 (vR 225), dE P "upper_text" 494 (vR 230), dE P "ascii_text" 500 (vR 235), dE P "text_octets" 506 (vR 240), dE P "MOST" 510 (.int 4294967295 509), dE P "read_end" 520 (vR 247), dE P "read_set" 531 (vR 254), dE P "show_end" 538 (vR 261), dE P "show_pair" 545 (vR 268), dE P "show_set" 551 (vR 273), dE P "QUOTE" 555 (.int 34 554), dE P "BACKSLASH" 557 (.int 92 556), dE P "MOST_DEPTH" 559 (.int 30 558), dE P "MOST_FIGURES" 561 (.int 19 560), dE P "MOST_COUNT_FIGURES" 563 (.int 10 562), dE P "MOST_QUOTED" 565 (.int 72 564), dE P "SPECIALS" 567 (.bytes (Array.mk [40, 41, 123, 37, 42, 34, 92, 93]) 566), dE P "VALUE_SPECIALS" 569 (.bytes (Array.mk [40, 41, 123, 34, 93]) 568), dE P "Atom" 605 (vR 297), dE P "is_printable" 612 (vR 308), dE P "is_atom_code" 619 (vR 315), dE P "is_astring_code" 626 (vR 322), dE P "is_tag_code" 633 (vR 329), dE P "is_value_code" 640 (vR 336), dE P "is_set_code" 647 (vR 343), dE P "is_figure" 654 (vR 350), dE P "number_of_figures" 663 (vR 357), dE P "figures_of" 670 (vR 364), dE P "Wire" 892 (vR 549)]) 64)
noncomputable def tmo12x4 (P : Params) : Obj := oF [(vI 1), (vI 0), (vR 20), (vI 5), (vI 0), (vR 27), (vI 14), (vI 0), (vR 55), (vI 16), (vI 0), (vR 67), (vI 18), (vI 0), (vR 79), (vI 20), (vI 0), (vR 91), (vI 22), (vI 0), (vR 103), (vI 25), (vI 0), (vR 113), (vI 27), (vI 0), (vR 118), (vI 34), (vI 0), (vR 123), (vI 42), (vI 0), (vR 130), (vI 47), (vI 0), (vR 137), (vI 54), (vI 0), (vR 144), (vI 68), (vI 0), (vR 151), (vI 70), (vI 0), (vR 158), (vI 72), (vI 0), (vR 165), (vI 86), (vI 0), (vR 172), (vI 91), (vI 0), (vR 179), (vI 108), (vI 0), (vR 186), (vI 115), (vI 0), (vR 193), (vI 137), (vI 0), (vR 200), (vI 145), (vI 0), (vR 207), (vI 169), (vI 0), (vR 214), (vI 171), (vI 0), (vR 219), (vI 173), (vI 0), (vR 224), (vI 175), (vI 0), (vR 229), (vI 177), (vI 0), (vR 234), (vI 182), (vI 0), (vR 239), (vI 189), (vI 0), (vR 246), (vI 204), (vI 0), (vR 253), (vI 218), (vI 0), (vR 260), (vI 222), (vI 0), (vR 267), (vI 226), (vI 0), (vR 272), (vI 237), (vI 0), (vR 279), (vI 244), (vI 0), (vR 307), (vI 246), (vI 0), (vR 314), (vI 248), (vI 0), (vR 321), (vI 250), (vI 0), (vR 328), (vI 252), (vI 0), (vR 335), (vI 254), (vI 0), (vR 342), (vI 256), (vI 0), (vR 349), (vI 258), (vI 0), (vR 356), (vI 263), (vI 0), (vR 363), (vI 267), (vI 0), (vR 370)]
noncomputable def tmo46x4 (P : Params) : Obj := Obj.mk (.type "type") none (.cls (cD (sS "PostError") [(.type "Exception")] [(vR 46), (.type "Exception"), (.type "BaseException"), (.type "object")] 45 (sS "PostError") true [] [(vR 59), (vR 71), (vR 83), (vR 95), (vR 107)] false none false)) (Array.mk [(some (vR 22)), none, (some (vS "PostError" 196)), (some (vS "PostError" 204)), (some (.builtin "Exception.__new__")), (some vT)])
noncomputable def thp4 (P : Params) : Heap := Heap.mk (Array.mk (tch0 P (tmo2x4 P) (tmo3x4 P) (tmo12x4 P) (tch1 P (tmo46x4 P) (tch2 P  (tch3 P  (tch4 P  [])))))) {}
noncomputable abbrev tst4 (w : World) (os : OsState) : Shared := Shared.mk (thp4 w.params) (Array.mk []) (Drawn.mk 0 0 0 0) 893 os
def tpo4 : Pos := Pos.mk 267 0 417 20
noncomputable def tbt4 (P : Params) : BT := (tnd (boot_o_0 P) (tnd (boot_o_1 P) (tnd (tmo3x4 P) (tnd (boot_o_7 P) (tnd (to15 P) (tnd (to31 P) (tnd (to63 P) (tnd (to127 P) (tnd (to255 P) (tnd (to511 P) tn0 tn0) tn0) (tnd (to383 P) tn0 tn0)) (tnd (to191 P) (tnd (to319 P) tn0 tn0) (tnd (to447 P) tn0 tn0))) (tnd (to95 P) (tnd (to159 P) (tnd (to287 P) (tnd (to543 P) tn0 tn0) tn0) (tnd (to415 P) tn0 tn0)) (tnd (to223 P) (tnd (to351 P) tn0 tn0) (tnd (to479 P) tn0 tn0)))) (tnd (to47 P) (tnd (to79 P) (tnd (to143 P) (tnd (to271 P) (tnd (to527 P) tn0 tn0) tn0) (tnd (to399 P) tn0 tn0)) (tnd (to207 P) (tnd (to335 P) tn0 tn0) (tnd (to463 P) tn0 tn0))) (tnd (to111 P) (tnd (to175 P) (tnd (to303 P) tn0 tn0) (tnd (to431 P) tn0 tn0)) (tnd (to239 P) (tnd (to367 P) tn0 tn0) (tnd (to495 P) tn0 tn0))))) (tnd (to23 P) (tnd (to39 P) (tnd (to71 P) (tnd (to135 P) (tnd (to263 P) (tnd (to519 P) tn0 tn0) tn0) (tnd (to391 P) tn0 tn0)) (tnd (to199 P) (tnd (to327 P) tn0 tn0) (tnd (to455 P) tn0 tn0))) (tnd (to103 P) (tnd (to167 P) (tnd (to295 P) (tnd (to551 P) tn0 tn0) tn0) (tnd (to423 P) tn0 tn0)) (tnd (to231 P) (tnd (to359 P) tn0 tn0) (tnd (to487 P) tn0 tn0)))) (tnd (to55 P) (tnd (to87 P) (tnd (to151 P) (tnd (to279 P) (tnd (to535 P) tn0 tn0) tn0) (tnd (to407 P) tn0 tn0)) (tnd (to215 P) (tnd (to343 P) tn0 tn0) (tnd (to471 P) tn0 tn0))) (tnd (to119 P) (tnd (to183 P) (tnd (to311 P) tn0 tn0) (tnd (to439 P) tn0 tn0)) (tnd (to247 P) (tnd (to375 P) tn0 tn0) (tnd (to503 P) tn0 tn0)))))) (tnd (to11 P) (tnd (to19 P) (tnd (to35 P) (tnd (to67 P) (tnd (to131 P) (tnd (to259 P) (tnd (to515 P) tn0 tn0) tn0) (tnd (to387 P) tn0 tn0)) (tnd (to195 P) (tnd (to323 P) tn0 tn0) (tnd (to451 P) tn0 tn0))) (tnd (to99 P) (tnd (to163 P) (tnd (to291 P) (tnd (to547 P) tn0 tn0) tn0) (tnd (to419 P) tn0 tn0)) (tnd (to227 P) (tnd (to355 P) tn0 tn0) (tnd (to483 P) tn0 tn0)))) (tnd (to51 P) (tnd (to83 P) (tnd (to147 P) (tnd (to275 P) (tnd (to531 P) tn0 tn0) tn0) (tnd (to403 P) tn0 tn0)) (tnd (to211 P) (tnd (to339 P) tn0 tn0) (tnd (to467 P) tn0 tn0))) (tnd (to115 P) (tnd (to179 P) (tnd (to307 P) tn0 tn0) (tnd (to435 P) tn0 tn0)) (tnd (to243 P) (tnd (to371 P) tn0 tn0) (tnd (to499 P) tn0 tn0))))) (tnd (to27 P) (tnd (to43 P) (tnd (to75 P) (tnd (to139 P) (tnd (to267 P) (tnd (to523 P) tn0 tn0) tn0) (tnd (to395 P) tn0 tn0)) (tnd (to203 P) (tnd (to331 P) tn0 tn0) (tnd (to459 P) tn0 tn0))) (tnd (to107 P) (tnd (to171 P) (tnd (to299 P) tn0 tn0) (tnd (to427 P) tn0 tn0)) (tnd (to235 P) (tnd (to363 P) tn0 tn0) (tnd (to491 P) tn0 tn0)))) (tnd (to59 P) (tnd (to91 P) (tnd (to155 P) (tnd (to283 P) (tnd (to539 P) tn0 tn0) tn0) (tnd (to411 P) tn0 tn0)) (tnd (to219 P) (tnd (to347 P) tn0 tn0) (tnd (to475 P) tn0 tn0))) (tnd (to123 P) (tnd (to187 P) (tnd (to315 P) tn0 tn0) (tnd (to443 P) tn0 tn0)) (tnd (to251 P) (tnd (to379 P) tn0 tn0) (tnd (to507 P) tn0 tn0))))))) (tnd (boot_o_5 P) (tnd (boot_o_9 P) (tnd (to17 P) (tnd (to33 P) (tnd (to65 P) (tnd (to129 P) (tnd (to257 P) (tnd (to513 P) tn0 tn0) tn0) (tnd (to385 P) tn0 tn0)) (tnd (to193 P) (tnd (to321 P) tn0 tn0) (tnd (to449 P) tn0 tn0))) (tnd (to97 P) (tnd (to161 P) (tnd (to289 P) (tnd (to545 P) tn0 tn0) tn0) (tnd (to417 P) tn0 tn0)) (tnd (to225 P) (tnd (to353 P) tn0 tn0) (tnd (to481 P) tn0 tn0)))) (tnd (to49 P) (tnd (to81 P) (tnd (to145 P) (tnd (to273 P) (tnd (to529 P) tn0 tn0) tn0) (tnd (to401 P) tn0 tn0)) (tnd (to209 P) (tnd (to337 P) tn0 tn0) (tnd (to465 P) tn0 tn0))) (tnd (to113 P) (tnd (to177 P) (tnd (to305 P) tn0 tn0) (tnd (to433 P) tn0 tn0)) (tnd (to241 P) (tnd (to369 P) tn0 tn0) (tnd (to497 P) tn0 tn0))))) (tnd (to25 P) (tnd (to41 P) (tnd (to73 P) (tnd (to137 P) (tnd (to265 P) (tnd (to521 P) tn0 tn0) tn0) (tnd (to393 P) tn0 tn0)) (tnd (to201 P) (tnd (to329 P) tn0 tn0) (tnd (to457 P) tn0 tn0))) (tnd (to105 P) (tnd (to169 P) (tnd (to297 P) (tnd (to553 P) tn0 tn0) tn0) (tnd (to425 P) tn0 tn0)) (tnd (to233 P) (tnd (to361 P) tn0 tn0) (tnd (to489 P) tn0 tn0)))) (tnd (to57 P) (tnd (to89 P) (tnd (to153 P) (tnd (to281 P) (tnd (to537 P) tn0 tn0) tn0) (tnd (to409 P) tn0 tn0)) (tnd (to217 P) (tnd (to345 P) tn0 tn0) (tnd (to473 P) tn0 tn0))) (tnd (to121 P) (tnd (to185 P) (tnd (to313 P) tn0 tn0) (tnd (to441 P) tn0 tn0)) (tnd (to249 P) (tnd (to377 P) tn0 tn0) (tnd (to505 P) tn0 tn0)))))) (tnd (to13 P) (tnd (to21 P) (tnd (to37 P) (tnd (to69 P) (tnd (to133 P) (tnd (to261 P) (tnd (to517 P) tn0 tn0) tn0) (tnd (to389 P) tn0 tn0)) (tnd (to197 P) (tnd (to325 P) tn0 tn0) (tnd (to453 P) tn0 tn0))) (tnd (to101 P) (tnd (to165 P) (tnd (to293 P) (tnd (to549 P) tn0 tn0) tn0) (tnd (to421 P) tn0 tn0)) (tnd (to229 P) (tnd (to357 P) tn0 tn0) (tnd (to485 P) tn0 tn0)))) (tnd (to53 P) (tnd (to85 P) (tnd (to149 P) (tnd (to277 P) (tnd (to533 P) tn0 tn0) tn0) (tnd (to405 P) tn0 tn0)) (tnd (to213 P) (tnd (to341 P) tn0 tn0) (tnd (to469 P) tn0 tn0))) (tnd (to117 P) (tnd (to181 P) (tnd (to309 P) tn0 tn0) (tnd (to437 P) tn0 tn0)) (tnd (to245 P) (tnd (to373 P) tn0 tn0) (tnd (to501 P) tn0 tn0))))) (tnd (to29 P) (tnd (to45 P) (tnd (to77 P) (tnd (to141 P) (tnd (to269 P) (tnd (to525 P) tn0 tn0) tn0) (tnd (to397 P) tn0 tn0)) (tnd (to205 P) (tnd (to333 P) tn0 tn0) (tnd (to461 P) tn0 tn0))) (tnd (to109 P) (tnd (to173 P) (tnd (to301 P) tn0 tn0) (tnd (to429 P) tn0 tn0)) (tnd (to237 P) (tnd (to365 P) tn0 tn0) (tnd (to493 P) tn0 tn0)))) (tnd (to61 P) (tnd (to93 P) (tnd (to157 P) (tnd (to285 P) (tnd (to541 P) tn0 tn0) tn0) (tnd (to413 P) tn0 tn0)) (tnd (to221 P) (tnd (to349 P) tn0 tn0) (tnd (to477 P) tn0 tn0))) (tnd (to125 P) (tnd (to189 P) (tnd (to317 P) tn0 tn0) (tnd (to445 P) tn0 tn0)) (tnd (to253 P) (tnd (to381 P) tn0 tn0) (tnd (to509 P) tn0 tn0)))))))) (tnd (tmo2x4 P) (tnd (boot_o_4 P) (tnd (boot_o_8 P) (tnd (to16 P) (tnd (to32 P) (tnd (to64 P) (tnd (to128 P) (tnd (to256 P) (tnd (to512 P) tn0 tn0) tn0) (tnd (to384 P) tn0 tn0)) (tnd (to192 P) (tnd (to320 P) tn0 tn0) (tnd (to448 P) tn0 tn0))) (tnd (to96 P) (tnd (to160 P) (tnd (to288 P) (tnd (to544 P) tn0 tn0) tn0) (tnd (to416 P) tn0 tn0)) (tnd (to224 P) (tnd (to352 P) tn0 tn0) (tnd (to480 P) tn0 tn0)))) (tnd (to48 P) (tnd (to80 P) (tnd (to144 P) (tnd (to272 P) (tnd (to528 P) tn0 tn0) tn0) (tnd (to400 P) tn0 tn0)) (tnd (to208 P) (tnd (to336 P) tn0 tn0) (tnd (to464 P) tn0 tn0))) (tnd (to112 P) (tnd (to176 P) (tnd (to304 P) tn0 tn0) (tnd (to432 P) tn0 tn0)) (tnd (to240 P) (tnd (to368 P) tn0 tn0) (tnd (to496 P) tn0 tn0))))) (tnd (to24 P) (tnd (to40 P) (tnd (to72 P) (tnd (to136 P) (tnd (to264 P) (tnd (to520 P) tn0 tn0) tn0) (tnd (to392 P) tn0 tn0)) (tnd (to200 P) (tnd (to328 P) tn0 tn0) (tnd (to456 P) tn0 tn0))) (tnd (to104 P) (tnd (to168 P) (tnd (to296 P) (tnd (to552 P) tn0 tn0) tn0) (tnd (to424 P) tn0 tn0)) (tnd (to232 P) (tnd (to360 P) tn0 tn0) (tnd (to488 P) tn0 tn0)))) (tnd (to56 P) (tnd (to88 P) (tnd (to152 P) (tnd (to280 P) (tnd (to536 P) tn0 tn0) tn0) (tnd (to408 P) tn0 tn0)) (tnd (to216 P) (tnd (to344 P) tn0 tn0) (tnd (to472 P) tn0 tn0))) (tnd (to120 P) (tnd (to184 P) (tnd (to312 P) tn0 tn0) (tnd (to440 P) tn0 tn0)) (tnd (to248 P) (tnd (to376 P) tn0 tn0) (tnd (to504 P) tn0 tn0)))))) (tnd (tmo12x4 P) (tnd (to20 P) (tnd (to36 P) (tnd (to68 P) (tnd (to132 P) (tnd (to260 P) (tnd (to516 P) tn0 tn0) tn0) (tnd (to388 P) tn0 tn0)) (tnd (to196 P) (tnd (to324 P) tn0 tn0) (tnd (to452 P) tn0 tn0))) (tnd (to100 P) (tnd (to164 P) (tnd (to292 P) (tnd (to548 P) tn0 tn0) tn0) (tnd (to420 P) tn0 tn0)) (tnd (to228 P) (tnd (to356 P) tn0 tn0) (tnd (to484 P) tn0 tn0)))) (tnd (to52 P) (tnd (to84 P) (tnd (to148 P) (tnd (to276 P) (tnd (to532 P) tn0 tn0) tn0) (tnd (to404 P) tn0 tn0)) (tnd (to212 P) (tnd (to340 P) tn0 tn0) (tnd (to468 P) tn0 tn0))) (tnd (to116 P) (tnd (to180 P) (tnd (to308 P) tn0 tn0) (tnd (to436 P) tn0 tn0)) (tnd (to244 P) (tnd (to372 P) tn0 tn0) (tnd (to500 P) tn0 tn0))))) (tnd (to28 P) (tnd (to44 P) (tnd (to76 P) (tnd (to140 P) (tnd (to268 P) (tnd (to524 P) tn0 tn0) tn0) (tnd (to396 P) tn0 tn0)) (tnd (to204 P) (tnd (to332 P) tn0 tn0) (tnd (to460 P) tn0 tn0))) (tnd (to108 P) (tnd (to172 P) (tnd (to300 P) tn0 tn0) (tnd (to428 P) tn0 tn0)) (tnd (to236 P) (tnd (to364 P) tn0 tn0) (tnd (to492 P) tn0 tn0)))) (tnd (to60 P) (tnd (to92 P) (tnd (to156 P) (tnd (to284 P) (tnd (to540 P) tn0 tn0) tn0) (tnd (to412 P) tn0 tn0)) (tnd (to220 P) (tnd (to348 P) tn0 tn0) (tnd (to476 P) tn0 tn0))) (tnd (to124 P) (tnd (to188 P) (tnd (to316 P) tn0 tn0) (tnd (to444 P) tn0 tn0)) (tnd (to252 P) (tnd (to380 P) tn0 tn0) (tnd (to508 P) tn0 tn0))))))) (tnd (boot_o_6 P) (tnd (boot_o_10 P) (tnd (to18 P) (tnd (to34 P) (tnd (to66 P) (tnd (to130 P) (tnd (to258 P) (tnd (to514 P) tn0 tn0) tn0) (tnd (to386 P) tn0 tn0)) (tnd (to194 P) (tnd (to322 P) tn0 tn0) (tnd (to450 P) tn0 tn0))) (tnd (to98 P) (tnd (to162 P) (tnd (to290 P) (tnd (to546 P) tn0 tn0) tn0) (tnd (to418 P) tn0 tn0)) (tnd (to226 P) (tnd (to354 P) tn0 tn0) (tnd (to482 P) tn0 tn0)))) (tnd (to50 P) (tnd (to82 P) (tnd (to146 P) (tnd (to274 P) (tnd (to530 P) tn0 tn0) tn0) (tnd (to402 P) tn0 tn0)) (tnd (to210 P) (tnd (to338 P) tn0 tn0) (tnd (to466 P) tn0 tn0))) (tnd (to114 P) (tnd (to178 P) (tnd (to306 P) tn0 tn0) (tnd (to434 P) tn0 tn0)) (tnd (to242 P) (tnd (to370 P) tn0 tn0) (tnd (to498 P) tn0 tn0))))) (tnd (to26 P) (tnd (to42 P) (tnd (to74 P) (tnd (to138 P) (tnd (to266 P) (tnd (to522 P) tn0 tn0) tn0) (tnd (to394 P) tn0 tn0)) (tnd (to202 P) (tnd (to330 P) tn0 tn0) (tnd (to458 P) tn0 tn0))) (tnd (to106 P) (tnd (to170 P) (tnd (to298 P) tn0 tn0) (tnd (to426 P) tn0 tn0)) (tnd (to234 P) (tnd (to362 P) tn0 tn0) (tnd (to490 P) tn0 tn0)))) (tnd (to58 P) (tnd (to90 P) (tnd (to154 P) (tnd (to282 P) (tnd (to538 P) tn0 tn0) tn0) (tnd (to410 P) tn0 tn0)) (tnd (to218 P) (tnd (to346 P) tn0 tn0) (tnd (to474 P) tn0 tn0))) (tnd (to122 P) (tnd (to186 P) (tnd (to314 P) tn0 tn0) (tnd (to442 P) tn0 tn0)) (tnd (to250 P) (tnd (to378 P) tn0 tn0) (tnd (to506 P) tn0 tn0)))))) (tnd (to14 P) (tnd (to22 P) (tnd (to38 P) (tnd (to70 P) (tnd (to134 P) (tnd (to262 P) (tnd (to518 P) tn0 tn0) tn0) (tnd (to390 P) tn0 tn0)) (tnd (to198 P) (tnd (to326 P) tn0 tn0) (tnd (to454 P) tn0 tn0))) (tnd (to102 P) (tnd (to166 P) (tnd (to294 P) (tnd (to550 P) tn0 tn0) tn0) (tnd (to422 P) tn0 tn0)) (tnd (to230 P) (tnd (to358 P) tn0 tn0) (tnd (to486 P) tn0 tn0)))) (tnd (to54 P) (tnd (to86 P) (tnd (to150 P) (tnd (to278 P) (tnd (to534 P) tn0 tn0) tn0) (tnd (to406 P) tn0 tn0)) (tnd (to214 P) (tnd (to342 P) tn0 tn0) (tnd (to470 P) tn0 tn0))) (tnd (to118 P) (tnd (to182 P) (tnd (to310 P) tn0 tn0) (tnd (to438 P) tn0 tn0)) (tnd (to246 P) (tnd (to374 P) tn0 tn0) (tnd (to502 P) tn0 tn0))))) (tnd (to30 P) (tnd (tmo46x4 P) (tnd (to78 P) (tnd (to142 P) (tnd (to270 P) (tnd (to526 P) tn0 tn0) tn0) (tnd (to398 P) tn0 tn0)) (tnd (to206 P) (tnd (to334 P) tn0 tn0) (tnd (to462 P) tn0 tn0))) (tnd (to110 P) (tnd (to174 P) (tnd (to302 P) tn0 tn0) (tnd (to430 P) tn0 tn0)) (tnd (to238 P) (tnd (to366 P) tn0 tn0) (tnd (to494 P) tn0 tn0)))) (tnd (to62 P) (tnd (to94 P) (tnd (to158 P) (tnd (to286 P) (tnd (to542 P) tn0 tn0) tn0) (tnd (to414 P) tn0 tn0)) (tnd (to222 P) (tnd (to350 P) tn0 tn0) (tnd (to478 P) tn0 tn0))) (tnd (to126 P) (tnd (to190 P) (tnd (to318 P) tn0 tn0) (tnd (to446 P) tn0 tn0)) (tnd (to254 P) (tnd (to382 P) tn0 tn0) (tnd (to510 P) tn0 tn0)))))))))
noncomputable abbrev tss4 (w : World) (os : OsState) : SharedT := SharedT.mk (tbt4 w.params) 554 {} (Array.mk []) (Drawn.mk 0 0 0 0) 893 os
noncomputable def tmo2x5 (P : Params) : Obj := oO vN none (.dict (Array.mk [dE P "type.__subclasses__.Exception.0" 232 (vI 46), dE P "type.__subclasses__.Exception.n" 233 (vI 1)]) 2)
noncomputable def tmo3x5 (P : Params) : Obj := oO (.type "dict") none (.dict (Array.mk [dE P "__name__" 165 (vS "postkeep.answers" 937), dE P "__doc__" 166 vN, dE P "__package__" 167 vN, dE P "__loader__" 168 (.builtin "__main__.__loader__#opaque"), dE P "__spec__" 169 vN, dE P "__annotations__" 170 (vR 6), dE P "__builtins__" 171 (vR 4), dE P "__file__" 173 (vS "/claim/cut.py" 172), dE P "__cached__" 174 vN, dE P "_wall" 193 (vR 21), dE P "PostError" 235 (vR 46), dE P "WordFault" 251 (vR 59), dE P "MimeFault" 267 (vR 71), dE P "NameFault" 283 (vR 83), dE P "SetFault" 299 (vR 95), dE P "WireFault" 315 (vR 107), dE P "worth_table" 323 (vR 114), dE P "group_codes" 329 (vR 119), dE P "group_octets" 335 (vR 124), dE P "part_encoded" 345 (vR 131), dE P "part_numbers" 355 (vR 138), dE P "part_decoded" 369 (vR 145), dE P "SHIFT_SIGNS" 373 (.bytes (Array.mk [65, 66, 67, 68, 69, 70, 71, 72, 73, 74, 75, 76, 77, 78, 79, 80, 81, 82, 83, 84, 85, 86, 87, 88, 89, 90, 97, 98, 99, 100, 101, 102, 103, 104, 105, 106, 107, 108, 109, 110, 111, 112, 113, 114, 115, 116, 117, 118, 119, 120, 121, 122, 48, 49, 50, 51, 52, 53, 54, 55, 56, 57, 43, 44]) 372), dE P "is_plain_code" 380 (vR 152), dE P "is_half" 387 (vR 159), dE P "utf16_octets" 400 (vR 166), dE P "run_behind" 409 (vR 173), dE P "utf7_octets" 420 (vR 180), dE P "shift_behind" 429 (vR 187), dE P "units_text" 442 (vR 194), dE P "shifted_text" 453 (vR 201), dE P "utf7_text" 465 (vR 208), dE P "CRLF" 469 (.bytes (Array.mk [13, 10]) 468), dE P "lower_code" 476 (vR 215), dE P "lower" 482 (vR 220), dE P "lower_text" 488 (vR 225), dE P "upper_text" 494 (vR 230), dE P "ascii_text" 500 (vR 235), dE P "text_octets" 506 (vR 240), dE P "MOST" 510 (.int 4294967295 509), dE P "read_end" 520 (vR 247), dE P "read_set" 531 (vR 254), dE P "show_end" 538 (vR 261), dE P "show_pair" 545 (vR 268), dE P "show_set" 551 (vR 273), dE P "QUOTE" 555 (.int 34 554), dE P "BACKSLASH" 557 (.int 92 556), dE P "MOST_DEPTH" 559 (.int 30 558), dE P "MOST_FIGURES" 561 (.int 19 560), dE P "MOST_COUNT_FIGURES" 563 (.int 10 562), dE P "MOST_QUOTED" 565 (.int 72 564), dE P "SPECIALS" 567 (.bytes (Array.mk [40, 41, 123, 37, 42, 34, 92, 93]) 566), dE P "VALUE_SPECIALS" 569 (.bytes (Array.mk [40, 41, 123, 34, 93]) 568), dE P "Atom" 605 (vR 297), dE P "is_printable" 612 (vR 308), dE P "is_atom_code" 619 (vR 315), dE P "is_astring_code" 626 (vR 322), dE P "is_tag_code" 633 (vR 329), dE P "is_value_code" 640 (vR 336), dE P "is_set_code" 647 (vR 343), dE P "is_figure" 654 (vR 350), dE P "number_of_figures" 663 (vR 357), dE P "figures_of" 670 (vR 364), dE P "Wire" 892 (vR 549), dE P "is_quotable" 898 (vR 558), dE P "quoted_octets" 907 (vR 565), dE P "literal_octets" 915 (vR 573), dE P "string_octets" 923 (vR 581), dE P "astring_octets" 929 (vR 587), dE P "write_value" 936 (vR 593), dE P "STATES" 940 (vS "OK NO BAD BYE PREAUTH" 939), dE P "checked_text" 949 (vR 600), dE P "name_octets" 956 (vR 607), dE P "words_octets" 962 (vR 612), dE P "bracketed" 968 (vR 617), dE P "numbers_octets" 974 (vR 622), dE P "pairs_octets" 984 (vR 629), dE P "fetched_octets" 990 (vR 634), dE P "status_octets" 996 (vR 639), dE P "box_octets" 1003 (vR 646), dE P "found_octets" 1012 (vR 653), dE P "untagged_octets" 1020 (vR 660), dE P "write_answer" 1027 (vR 667), dE P "is_name_code" 1034 (vR 674)]) 84)
noncomputable def tmo12x5 (P : Params) : Obj := oF [(vI 1), (vI 0), (vR 20), (vI 5), (vI 0), (vR 27), (vI 14), (vI 0), (vR 55), (vI 16), (vI 0), (vR 67), (vI 18), (vI 0), (vR 79), (vI 20), (vI 0), (vR 91), (vI 22), (vI 0), (vR 103), (vI 25), (vI 0), (vR 113), (vI 27), (vI 0), (vR 118), (vI 34), (vI 0), (vR 123), (vI 42), (vI 0), (vR 130), (vI 47), (vI 0), (vR 137), (vI 54), (vI 0), (vR 144), (vI 68), (vI 0), (vR 151), (vI 70), (vI 0), (vR 158), (vI 72), (vI 0), (vR 165), (vI 86), (vI 0), (vR 172), (vI 91), (vI 0), (vR 179), (vI 108), (vI 0), (vR 186), (vI 115), (vI 0), (vR 193), (vI 137), (vI 0), (vR 200), (vI 145), (vI 0), (vR 207), (vI 169), (vI 0), (vR 214), (vI 171), (vI 0), (vR 219), (vI 173), (vI 0), (vR 224), (vI 175), (vI 0), (vR 229), (vI 177), (vI 0), (vR 234), (vI 182), (vI 0), (vR 239), (vI 189), (vI 0), (vR 246), (vI 204), (vI 0), (vR 253), (vI 218), (vI 0), (vR 260), (vI 222), (vI 0), (vR 267), (vI 226), (vI 0), (vR 272), (vI 237), (vI 0), (vR 279), (vI 244), (vI 0), (vR 307), (vI 246), (vI 0), (vR 314), (vI 248), (vI 0), (vR 321), (vI 250), (vI 0), (vR 328), (vI 252), (vI 0), (vR 335), (vI 254), (vI 0), (vR 342), (vI 256), (vI 0), (vR 349), (vI 258), (vI 0), (vR 356), (vI 263), (vI 0), (vR 363), (vI 267), (vI 0), (vR 370), (vI 418), (vI 0), (vR 557), (vI 420), (vI 0), (vR 564), (vI 428), (vI 0), (vR 572), (vI 430), (vI 0), (vR 580), (vI 434), (vI 0), (vR 586), (vI 439), (vI 0), (vR 592), (vI 453), (vI 0), (vR 599), (vI 460), (vI 0), (vR 606), (vI 462), (vI 0), (vR 611), (vI 464), (vI 0), (vR 616), (vI 466), (vI 0), (vR 621), (vI 468), (vI 0), (vR 628), (vI 474), (vI 0), (vR 633), (vI 476), (vI 0), (vR 638), (vI 481), (vI 0), (vR 645), (vI 487), (vI 0), (vR 652), (vI 497), (vI 0), (vR 659), (vI 516), (vI 0), (vR 666), (vI 522), (vI 0), (vR 673)]
noncomputable def tmo46x5 (P : Params) : Obj := Obj.mk (.type "type") none (.cls (cD (sS "PostError") [(.type "Exception")] [(vR 46), (.type "Exception"), (.type "BaseException"), (.type "object")] 45 (sS "PostError") true [] [(vR 59), (vR 71), (vR 83), (vR 95), (vR 107)] false none false)) (Array.mk [(some (vR 22)), none, (some (vS "PostError" 196)), (some (vS "PostError" 204)), (some (.builtin "Exception.__new__")), (some vT)])
noncomputable def thp5 (P : Params) : Heap := Heap.mk (Array.mk (tch0 P (tmo2x5 P) (tmo3x5 P) (tmo12x5 P) (tch1 P (tmo46x5 P) (tch2 P  (tch3 P  (tch4 P  (tch5 P  []))))))) {}
noncomputable abbrev tst5 (w : World) (os : OsState) : Shared := Shared.mk (thp5 w.params) (Array.mk []) (Drawn.mk 0 0 0 0) 1035 os
def tpo5 : Pos := Pos.mk 522 0 523 53
noncomputable def tbt5 (P : Params) : BT := (tnd (boot_o_0 P) (tnd (boot_o_1 P) (tnd (tmo3x5 P) (tnd (boot_o_7 P) (tnd (to15 P) (tnd (to31 P) (tnd (to63 P) (tnd (to127 P) (tnd (to255 P) (tnd (to511 P) tn0 tn0) tn0) (tnd (to383 P) (tnd (to639 P) tn0 tn0) tn0)) (tnd (to191 P) (tnd (to319 P) (tnd (to575 P) tn0 tn0) tn0) (tnd (to447 P) tn0 tn0))) (tnd (to95 P) (tnd (to159 P) (tnd (to287 P) (tnd (to543 P) tn0 tn0) tn0) (tnd (to415 P) (tnd (to671 P) tn0 tn0) tn0)) (tnd (to223 P) (tnd (to351 P) (tnd (to607 P) tn0 tn0) tn0) (tnd (to479 P) tn0 tn0)))) (tnd (to47 P) (tnd (to79 P) (tnd (to143 P) (tnd (to271 P) (tnd (to527 P) tn0 tn0) tn0) (tnd (to399 P) (tnd (to655 P) tn0 tn0) tn0)) (tnd (to207 P) (tnd (to335 P) (tnd (to591 P) tn0 tn0) tn0) (tnd (to463 P) tn0 tn0))) (tnd (to111 P) (tnd (to175 P) (tnd (to303 P) (tnd (to559 P) tn0 tn0) tn0) (tnd (to431 P) tn0 tn0)) (tnd (to239 P) (tnd (to367 P) (tnd (to623 P) tn0 tn0) tn0) (tnd (to495 P) tn0 tn0))))) (tnd (to23 P) (tnd (to39 P) (tnd (to71 P) (tnd (to135 P) (tnd (to263 P) (tnd (to519 P) tn0 tn0) tn0) (tnd (to391 P) (tnd (to647 P) tn0 tn0) tn0)) (tnd (to199 P) (tnd (to327 P) (tnd (to583 P) tn0 tn0) tn0) (tnd (to455 P) tn0 tn0))) (tnd (to103 P) (tnd (to167 P) (tnd (to295 P) (tnd (to551 P) tn0 tn0) tn0) (tnd (to423 P) tn0 tn0)) (tnd (to231 P) (tnd (to359 P) (tnd (to615 P) tn0 tn0) tn0) (tnd (to487 P) tn0 tn0)))) (tnd (to55 P) (tnd (to87 P) (tnd (to151 P) (tnd (to279 P) (tnd (to535 P) tn0 tn0) tn0) (tnd (to407 P) (tnd (to663 P) tn0 tn0) tn0)) (tnd (to215 P) (tnd (to343 P) (tnd (to599 P) tn0 tn0) tn0) (tnd (to471 P) tn0 tn0))) (tnd (to119 P) (tnd (to183 P) (tnd (to311 P) (tnd (to567 P) tn0 tn0) tn0) (tnd (to439 P) tn0 tn0)) (tnd (to247 P) (tnd (to375 P) (tnd (to631 P) tn0 tn0) tn0) (tnd (to503 P) tn0 tn0)))))) (tnd (to11 P) (tnd (to19 P) (tnd (to35 P) (tnd (to67 P) (tnd (to131 P) (tnd (to259 P) (tnd (to515 P) tn0 tn0) tn0) (tnd (to387 P) (tnd (to643 P) tn0 tn0) tn0)) (tnd (to195 P) (tnd (to323 P) (tnd (to579 P) tn0 tn0) tn0) (tnd (to451 P) tn0 tn0))) (tnd (to99 P) (tnd (to163 P) (tnd (to291 P) (tnd (to547 P) tn0 tn0) tn0) (tnd (to419 P) tn0 tn0)) (tnd (to227 P) (tnd (to355 P) (tnd (to611 P) tn0 tn0) tn0) (tnd (to483 P) tn0 tn0)))) (tnd (to51 P) (tnd (to83 P) (tnd (to147 P) (tnd (to275 P) (tnd (to531 P) tn0 tn0) tn0) (tnd (to403 P) (tnd (to659 P) tn0 tn0) tn0)) (tnd (to211 P) (tnd (to339 P) (tnd (to595 P) tn0 tn0) tn0) (tnd (to467 P) tn0 tn0))) (tnd (to115 P) (tnd (to179 P) (tnd (to307 P) (tnd (to563 P) tn0 tn0) tn0) (tnd (to435 P) tn0 tn0)) (tnd (to243 P) (tnd (to371 P) (tnd (to627 P) tn0 tn0) tn0) (tnd (to499 P) tn0 tn0))))) (tnd (to27 P) (tnd (to43 P) (tnd (to75 P) (tnd (to139 P) (tnd (to267 P) (tnd (to523 P) tn0 tn0) tn0) (tnd (to395 P) (tnd (to651 P) tn0 tn0) tn0)) (tnd (to203 P) (tnd (to331 P) (tnd (to587 P) tn0 tn0) tn0) (tnd (to459 P) tn0 tn0))) (tnd (to107 P) (tnd (to171 P) (tnd (to299 P) (tnd (to555 P) tn0 tn0) tn0) (tnd (to427 P) tn0 tn0)) (tnd (to235 P) (tnd (to363 P) (tnd (to619 P) tn0 tn0) tn0) (tnd (to491 P) tn0 tn0)))) (tnd (to59 P) (tnd (to91 P) (tnd (to155 P) (tnd (to283 P) (tnd (to539 P) tn0 tn0) tn0) (tnd (to411 P) (tnd (to667 P) tn0 tn0) tn0)) (tnd (to219 P) (tnd (to347 P) (tnd (to603 P) tn0 tn0) tn0) (tnd (to475 P) tn0 tn0))) (tnd (to123 P) (tnd (to187 P) (tnd (to315 P) (tnd (to571 P) tn0 tn0) tn0) (tnd (to443 P) tn0 tn0)) (tnd (to251 P) (tnd (to379 P) (tnd (to635 P) tn0 tn0) tn0) (tnd (to507 P) tn0 tn0))))))) (tnd (boot_o_5 P) (tnd (boot_o_9 P) (tnd (to17 P) (tnd (to33 P) (tnd (to65 P) (tnd (to129 P) (tnd (to257 P) (tnd (to513 P) tn0 tn0) tn0) (tnd (to385 P) (tnd (to641 P) tn0 tn0) tn0)) (tnd (to193 P) (tnd (to321 P) (tnd (to577 P) tn0 tn0) tn0) (tnd (to449 P) tn0 tn0))) (tnd (to97 P) (tnd (to161 P) (tnd (to289 P) (tnd (to545 P) tn0 tn0) tn0) (tnd (to417 P) (tnd (to673 P) tn0 tn0) tn0)) (tnd (to225 P) (tnd (to353 P) (tnd (to609 P) tn0 tn0) tn0) (tnd (to481 P) tn0 tn0)))) (tnd (to49 P) (tnd (to81 P) (tnd (to145 P) (tnd (to273 P) (tnd (to529 P) tn0 tn0) tn0) (tnd (to401 P) (tnd (to657 P) tn0 tn0) tn0)) (tnd (to209 P) (tnd (to337 P) (tnd (to593 P) tn0 tn0) tn0) (tnd (to465 P) tn0 tn0))) (tnd (to113 P) (tnd (to177 P) (tnd (to305 P) (tnd (to561 P) tn0 tn0) tn0) (tnd (to433 P) tn0 tn0)) (tnd (to241 P) (tnd (to369 P) (tnd (to625 P) tn0 tn0) tn0) (tnd (to497 P) tn0 tn0))))) (tnd (to25 P) (tnd (to41 P) (tnd (to73 P) (tnd (to137 P) (tnd (to265 P) (tnd (to521 P) tn0 tn0) tn0) (tnd (to393 P) (tnd (to649 P) tn0 tn0) tn0)) (tnd (to201 P) (tnd (to329 P) (tnd (to585 P) tn0 tn0) tn0) (tnd (to457 P) tn0 tn0))) (tnd (to105 P) (tnd (to169 P) (tnd (to297 P) (tnd (to553 P) tn0 tn0) tn0) (tnd (to425 P) tn0 tn0)) (tnd (to233 P) (tnd (to361 P) (tnd (to617 P) tn0 tn0) tn0) (tnd (to489 P) tn0 tn0)))) (tnd (to57 P) (tnd (to89 P) (tnd (to153 P) (tnd (to281 P) (tnd (to537 P) tn0 tn0) tn0) (tnd (to409 P) (tnd (to665 P) tn0 tn0) tn0)) (tnd (to217 P) (tnd (to345 P) (tnd (to601 P) tn0 tn0) tn0) (tnd (to473 P) tn0 tn0))) (tnd (to121 P) (tnd (to185 P) (tnd (to313 P) (tnd (to569 P) tn0 tn0) tn0) (tnd (to441 P) tn0 tn0)) (tnd (to249 P) (tnd (to377 P) (tnd (to633 P) tn0 tn0) tn0) (tnd (to505 P) tn0 tn0)))))) (tnd (to13 P) (tnd (to21 P) (tnd (to37 P) (tnd (to69 P) (tnd (to133 P) (tnd (to261 P) (tnd (to517 P) tn0 tn0) tn0) (tnd (to389 P) (tnd (to645 P) tn0 tn0) tn0)) (tnd (to197 P) (tnd (to325 P) (tnd (to581 P) tn0 tn0) tn0) (tnd (to453 P) tn0 tn0))) (tnd (to101 P) (tnd (to165 P) (tnd (to293 P) (tnd (to549 P) tn0 tn0) tn0) (tnd (to421 P) tn0 tn0)) (tnd (to229 P) (tnd (to357 P) (tnd (to613 P) tn0 tn0) tn0) (tnd (to485 P) tn0 tn0)))) (tnd (to53 P) (tnd (to85 P) (tnd (to149 P) (tnd (to277 P) (tnd (to533 P) tn0 tn0) tn0) (tnd (to405 P) (tnd (to661 P) tn0 tn0) tn0)) (tnd (to213 P) (tnd (to341 P) (tnd (to597 P) tn0 tn0) tn0) (tnd (to469 P) tn0 tn0))) (tnd (to117 P) (tnd (to181 P) (tnd (to309 P) (tnd (to565 P) tn0 tn0) tn0) (tnd (to437 P) tn0 tn0)) (tnd (to245 P) (tnd (to373 P) (tnd (to629 P) tn0 tn0) tn0) (tnd (to501 P) tn0 tn0))))) (tnd (to29 P) (tnd (to45 P) (tnd (to77 P) (tnd (to141 P) (tnd (to269 P) (tnd (to525 P) tn0 tn0) tn0) (tnd (to397 P) (tnd (to653 P) tn0 tn0) tn0)) (tnd (to205 P) (tnd (to333 P) (tnd (to589 P) tn0 tn0) tn0) (tnd (to461 P) tn0 tn0))) (tnd (to109 P) (tnd (to173 P) (tnd (to301 P) (tnd (to557 P) tn0 tn0) tn0) (tnd (to429 P) tn0 tn0)) (tnd (to237 P) (tnd (to365 P) (tnd (to621 P) tn0 tn0) tn0) (tnd (to493 P) tn0 tn0)))) (tnd (to61 P) (tnd (to93 P) (tnd (to157 P) (tnd (to285 P) (tnd (to541 P) tn0 tn0) tn0) (tnd (to413 P) (tnd (to669 P) tn0 tn0) tn0)) (tnd (to221 P) (tnd (to349 P) (tnd (to605 P) tn0 tn0) tn0) (tnd (to477 P) tn0 tn0))) (tnd (to125 P) (tnd (to189 P) (tnd (to317 P) (tnd (to573 P) tn0 tn0) tn0) (tnd (to445 P) tn0 tn0)) (tnd (to253 P) (tnd (to381 P) (tnd (to637 P) tn0 tn0) tn0) (tnd (to509 P) tn0 tn0)))))))) (tnd (tmo2x5 P) (tnd (boot_o_4 P) (tnd (boot_o_8 P) (tnd (to16 P) (tnd (to32 P) (tnd (to64 P) (tnd (to128 P) (tnd (to256 P) (tnd (to512 P) tn0 tn0) tn0) (tnd (to384 P) (tnd (to640 P) tn0 tn0) tn0)) (tnd (to192 P) (tnd (to320 P) (tnd (to576 P) tn0 tn0) tn0) (tnd (to448 P) tn0 tn0))) (tnd (to96 P) (tnd (to160 P) (tnd (to288 P) (tnd (to544 P) tn0 tn0) tn0) (tnd (to416 P) (tnd (to672 P) tn0 tn0) tn0)) (tnd (to224 P) (tnd (to352 P) (tnd (to608 P) tn0 tn0) tn0) (tnd (to480 P) tn0 tn0)))) (tnd (to48 P) (tnd (to80 P) (tnd (to144 P) (tnd (to272 P) (tnd (to528 P) tn0 tn0) tn0) (tnd (to400 P) (tnd (to656 P) tn0 tn0) tn0)) (tnd (to208 P) (tnd (to336 P) (tnd (to592 P) tn0 tn0) tn0) (tnd (to464 P) tn0 tn0))) (tnd (to112 P) (tnd (to176 P) (tnd (to304 P) (tnd (to560 P) tn0 tn0) tn0) (tnd (to432 P) tn0 tn0)) (tnd (to240 P) (tnd (to368 P) (tnd (to624 P) tn0 tn0) tn0) (tnd (to496 P) tn0 tn0))))) (tnd (to24 P) (tnd (to40 P) (tnd (to72 P) (tnd (to136 P) (tnd (to264 P) (tnd (to520 P) tn0 tn0) tn0) (tnd (to392 P) (tnd (to648 P) tn0 tn0) tn0)) (tnd (to200 P) (tnd (to328 P) (tnd (to584 P) tn0 tn0) tn0) (tnd (to456 P) tn0 tn0))) (tnd (to104 P) (tnd (to168 P) (tnd (to296 P) (tnd (to552 P) tn0 tn0) tn0) (tnd (to424 P) tn0 tn0)) (tnd (to232 P) (tnd (to360 P) (tnd (to616 P) tn0 tn0) tn0) (tnd (to488 P) tn0 tn0)))) (tnd (to56 P) (tnd (to88 P) (tnd (to152 P) (tnd (to280 P) (tnd (to536 P) tn0 tn0) tn0) (tnd (to408 P) (tnd (to664 P) tn0 tn0) tn0)) (tnd (to216 P) (tnd (to344 P) (tnd (to600 P) tn0 tn0) tn0) (tnd (to472 P) tn0 tn0))) (tnd (to120 P) (tnd (to184 P) (tnd (to312 P) (tnd (to568 P) tn0 tn0) tn0) (tnd (to440 P) tn0 tn0)) (tnd (to248 P) (tnd (to376 P) (tnd (to632 P) tn0 tn0) tn0) (tnd (to504 P) tn0 tn0)))))) (tnd (tmo12x5 P) (tnd (to20 P) (tnd (to36 P) (tnd (to68 P) (tnd (to132 P) (tnd (to260 P) (tnd (to516 P) tn0 tn0) tn0) (tnd (to388 P) (tnd (to644 P) tn0 tn0) tn0)) (tnd (to196 P) (tnd (to324 P) (tnd (to580 P) tn0 tn0) tn0) (tnd (to452 P) tn0 tn0))) (tnd (to100 P) (tnd (to164 P) (tnd (to292 P) (tnd (to548 P) tn0 tn0) tn0) (tnd (to420 P) tn0 tn0)) (tnd (to228 P) (tnd (to356 P) (tnd (to612 P) tn0 tn0) tn0) (tnd (to484 P) tn0 tn0)))) (tnd (to52 P) (tnd (to84 P) (tnd (to148 P) (tnd (to276 P) (tnd (to532 P) tn0 tn0) tn0) (tnd (to404 P) (tnd (to660 P) tn0 tn0) tn0)) (tnd (to212 P) (tnd (to340 P) (tnd (to596 P) tn0 tn0) tn0) (tnd (to468 P) tn0 tn0))) (tnd (to116 P) (tnd (to180 P) (tnd (to308 P) (tnd (to564 P) tn0 tn0) tn0) (tnd (to436 P) tn0 tn0)) (tnd (to244 P) (tnd (to372 P) (tnd (to628 P) tn0 tn0) tn0) (tnd (to500 P) tn0 tn0))))) (tnd (to28 P) (tnd (to44 P) (tnd (to76 P) (tnd (to140 P) (tnd (to268 P) (tnd (to524 P) tn0 tn0) tn0) (tnd (to396 P) (tnd (to652 P) tn0 tn0) tn0)) (tnd (to204 P) (tnd (to332 P) (tnd (to588 P) tn0 tn0) tn0) (tnd (to460 P) tn0 tn0))) (tnd (to108 P) (tnd (to172 P) (tnd (to300 P) (tnd (to556 P) tn0 tn0) tn0) (tnd (to428 P) tn0 tn0)) (tnd (to236 P) (tnd (to364 P) (tnd (to620 P) tn0 tn0) tn0) (tnd (to492 P) tn0 tn0)))) (tnd (to60 P) (tnd (to92 P) (tnd (to156 P) (tnd (to284 P) (tnd (to540 P) tn0 tn0) tn0) (tnd (to412 P) (tnd (to668 P) tn0 tn0) tn0)) (tnd (to220 P) (tnd (to348 P) (tnd (to604 P) tn0 tn0) tn0) (tnd (to476 P) tn0 tn0))) (tnd (to124 P) (tnd (to188 P) (tnd (to316 P) (tnd (to572 P) tn0 tn0) tn0) (tnd (to444 P) tn0 tn0)) (tnd (to252 P) (tnd (to380 P) (tnd (to636 P) tn0 tn0) tn0) (tnd (to508 P) tn0 tn0))))))) (tnd (boot_o_6 P) (tnd (boot_o_10 P) (tnd (to18 P) (tnd (to34 P) (tnd (to66 P) (tnd (to130 P) (tnd (to258 P) (tnd (to514 P) tn0 tn0) tn0) (tnd (to386 P) (tnd (to642 P) tn0 tn0) tn0)) (tnd (to194 P) (tnd (to322 P) (tnd (to578 P) tn0 tn0) tn0) (tnd (to450 P) tn0 tn0))) (tnd (to98 P) (tnd (to162 P) (tnd (to290 P) (tnd (to546 P) tn0 tn0) tn0) (tnd (to418 P) (tnd (to674 P) tn0 tn0) tn0)) (tnd (to226 P) (tnd (to354 P) (tnd (to610 P) tn0 tn0) tn0) (tnd (to482 P) tn0 tn0)))) (tnd (to50 P) (tnd (to82 P) (tnd (to146 P) (tnd (to274 P) (tnd (to530 P) tn0 tn0) tn0) (tnd (to402 P) (tnd (to658 P) tn0 tn0) tn0)) (tnd (to210 P) (tnd (to338 P) (tnd (to594 P) tn0 tn0) tn0) (tnd (to466 P) tn0 tn0))) (tnd (to114 P) (tnd (to178 P) (tnd (to306 P) (tnd (to562 P) tn0 tn0) tn0) (tnd (to434 P) tn0 tn0)) (tnd (to242 P) (tnd (to370 P) (tnd (to626 P) tn0 tn0) tn0) (tnd (to498 P) tn0 tn0))))) (tnd (to26 P) (tnd (to42 P) (tnd (to74 P) (tnd (to138 P) (tnd (to266 P) (tnd (to522 P) tn0 tn0) tn0) (tnd (to394 P) (tnd (to650 P) tn0 tn0) tn0)) (tnd (to202 P) (tnd (to330 P) (tnd (to586 P) tn0 tn0) tn0) (tnd (to458 P) tn0 tn0))) (tnd (to106 P) (tnd (to170 P) (tnd (to298 P) (tnd (to554 P) tn0 tn0) tn0) (tnd (to426 P) tn0 tn0)) (tnd (to234 P) (tnd (to362 P) (tnd (to618 P) tn0 tn0) tn0) (tnd (to490 P) tn0 tn0)))) (tnd (to58 P) (tnd (to90 P) (tnd (to154 P) (tnd (to282 P) (tnd (to538 P) tn0 tn0) tn0) (tnd (to410 P) (tnd (to666 P) tn0 tn0) tn0)) (tnd (to218 P) (tnd (to346 P) (tnd (to602 P) tn0 tn0) tn0) (tnd (to474 P) tn0 tn0))) (tnd (to122 P) (tnd (to186 P) (tnd (to314 P) (tnd (to570 P) tn0 tn0) tn0) (tnd (to442 P) tn0 tn0)) (tnd (to250 P) (tnd (to378 P) (tnd (to634 P) tn0 tn0) tn0) (tnd (to506 P) tn0 tn0)))))) (tnd (to14 P) (tnd (to22 P) (tnd (to38 P) (tnd (to70 P) (tnd (to134 P) (tnd (to262 P) (tnd (to518 P) tn0 tn0) tn0) (tnd (to390 P) (tnd (to646 P) tn0 tn0) tn0)) (tnd (to198 P) (tnd (to326 P) (tnd (to582 P) tn0 tn0) tn0) (tnd (to454 P) tn0 tn0))) (tnd (to102 P) (tnd (to166 P) (tnd (to294 P) (tnd (to550 P) tn0 tn0) tn0) (tnd (to422 P) tn0 tn0)) (tnd (to230 P) (tnd (to358 P) (tnd (to614 P) tn0 tn0) tn0) (tnd (to486 P) tn0 tn0)))) (tnd (to54 P) (tnd (to86 P) (tnd (to150 P) (tnd (to278 P) (tnd (to534 P) tn0 tn0) tn0) (tnd (to406 P) (tnd (to662 P) tn0 tn0) tn0)) (tnd (to214 P) (tnd (to342 P) (tnd (to598 P) tn0 tn0) tn0) (tnd (to470 P) tn0 tn0))) (tnd (to118 P) (tnd (to182 P) (tnd (to310 P) (tnd (to566 P) tn0 tn0) tn0) (tnd (to438 P) tn0 tn0)) (tnd (to246 P) (tnd (to374 P) (tnd (to630 P) tn0 tn0) tn0) (tnd (to502 P) tn0 tn0))))) (tnd (to30 P) (tnd (tmo46x5 P) (tnd (to78 P) (tnd (to142 P) (tnd (to270 P) (tnd (to526 P) tn0 tn0) tn0) (tnd (to398 P) (tnd (to654 P) tn0 tn0) tn0)) (tnd (to206 P) (tnd (to334 P) (tnd (to590 P) tn0 tn0) tn0) (tnd (to462 P) tn0 tn0))) (tnd (to110 P) (tnd (to174 P) (tnd (to302 P) (tnd (to558 P) tn0 tn0) tn0) (tnd (to430 P) tn0 tn0)) (tnd (to238 P) (tnd (to366 P) (tnd (to622 P) tn0 tn0) tn0) (tnd (to494 P) tn0 tn0)))) (tnd (to62 P) (tnd (to94 P) (tnd (to158 P) (tnd (to286 P) (tnd (to542 P) tn0 tn0) tn0) (tnd (to414 P) (tnd (to670 P) tn0 tn0) tn0)) (tnd (to222 P) (tnd (to350 P) (tnd (to606 P) tn0 tn0) tn0) (tnd (to478 P) tn0 tn0))) (tnd (to126 P) (tnd (to190 P) (tnd (to318 P) (tnd (to574 P) tn0 tn0) tn0) (tnd (to446 P) tn0 tn0)) (tnd (to254 P) (tnd (to382 P) (tnd (to638 P) tn0 tn0) tn0) (tnd (to510 P) tn0 tn0)))))))))
noncomputable abbrev tss5 (w : World) (os : OsState) : SharedT := SharedT.mk (tbt5 w.params) 675 {} (Array.mk []) (Drawn.mk 0 0 0 0) 1035 os
noncomputable def tmo2x6 (P : Params) : Obj := oO vN none (.dict (Array.mk [dE P "type.__subclasses__.Exception.0" 232 (vI 46), dE P "type.__subclasses__.Exception.n" 233 (vI 1)]) 2)
noncomputable def tmo3x6 (P : Params) : Obj := oO (.type "dict") none (.dict (Array.mk [dE P "__name__" 165 (vS "law_nz0333_01" 1171), dE P "__doc__" 166 vN, dE P "__package__" 167 vN, dE P "__loader__" 168 (.builtin "__main__.__loader__#opaque"), dE P "__spec__" 169 vN, dE P "__annotations__" 170 (vR 6), dE P "__builtins__" 171 (vR 4), dE P "__file__" 173 (vS "/claim/cut.py" 172), dE P "__cached__" 174 vN, dE P "_wall" 193 (vR 21), dE P "PostError" 235 (vR 46), dE P "WordFault" 251 (vR 59), dE P "MimeFault" 267 (vR 71), dE P "NameFault" 283 (vR 83), dE P "SetFault" 299 (vR 95), dE P "WireFault" 315 (vR 107), dE P "worth_table" 323 (vR 114), dE P "group_codes" 329 (vR 119), dE P "group_octets" 335 (vR 124), dE P "part_encoded" 345 (vR 131), dE P "part_numbers" 355 (vR 138), dE P "part_decoded" 369 (vR 145), dE P "SHIFT_SIGNS" 373 (.bytes (Array.mk [65, 66, 67, 68, 69, 70, 71, 72, 73, 74, 75, 76, 77, 78, 79, 80, 81, 82, 83, 84, 85, 86, 87, 88, 89, 90, 97, 98, 99, 100, 101, 102, 103, 104, 105, 106, 107, 108, 109, 110, 111, 112, 113, 114, 115, 116, 117, 118, 119, 120, 121, 122, 48, 49, 50, 51, 52, 53, 54, 55, 56, 57, 43, 44]) 372), dE P "is_plain_code" 380 (vR 152), dE P "is_half" 387 (vR 159), dE P "utf16_octets" 400 (vR 166), dE P "run_behind" 409 (vR 173), dE P "utf7_octets" 420 (vR 180), dE P "shift_behind" 429 (vR 187), dE P "units_text" 442 (vR 194), dE P "shifted_text" 453 (vR 201), dE P "utf7_text" 465 (vR 208), dE P "CRLF" 469 (.bytes (Array.mk [13, 10]) 468), dE P "lower_code" 476 (vR 215), dE P "lower" 482 (vR 220), dE P "lower_text" 488 (vR 225), dE P "upper_text" 494 (vR 230), dE P "ascii_text" 500 (vR 235), dE P "text_octets" 506 (vR 240), dE P "MOST" 510 (.int 4294967295 509), dE P "read_end" 520 (vR 247), dE P "read_set" 531 (vR 254), dE P "show_end" 538 (vR 261), dE P "show_pair" 545 (vR 268), dE P "show_set" 551 (vR 273), dE P "QUOTE" 555 (.int 34 554), dE P "BACKSLASH" 557 (.int 92 556), dE P "MOST_DEPTH" 559 (.int 30 558), dE P "MOST_FIGURES" 561 (.int 19 560), dE P "MOST_COUNT_FIGURES" 563 (.int 10 562), dE P "MOST_QUOTED" 565 (.int 72 564), dE P "SPECIALS" 567 (.bytes (Array.mk [40, 41, 123, 37, 42, 34, 92, 93]) 566), dE P "VALUE_SPECIALS" 569 (.bytes (Array.mk [40, 41, 123, 34, 93]) 568), dE P "Atom" 605 (vR 297), dE P "is_printable" 612 (vR 308), dE P "is_atom_code" 619 (vR 315), dE P "is_astring_code" 626 (vR 322), dE P "is_tag_code" 633 (vR 329), dE P "is_value_code" 640 (vR 336), dE P "is_set_code" 647 (vR 343), dE P "is_figure" 654 (vR 350), dE P "number_of_figures" 663 (vR 357), dE P "figures_of" 670 (vR 364), dE P "Wire" 892 (vR 549), dE P "is_quotable" 898 (vR 558), dE P "quoted_octets" 907 (vR 565), dE P "literal_octets" 915 (vR 573), dE P "string_octets" 923 (vR 581), dE P "astring_octets" 929 (vR 587), dE P "write_value" 936 (vR 593), dE P "STATES" 940 (vS "OK NO BAD BYE PREAUTH" 939), dE P "checked_text" 949 (vR 600), dE P "name_octets" 956 (vR 607), dE P "words_octets" 962 (vR 612), dE P "bracketed" 968 (vR 617), dE P "numbers_octets" 974 (vR 622), dE P "pairs_octets" 984 (vR 629), dE P "fetched_octets" 990 (vR 634), dE P "status_octets" 996 (vR 639), dE P "box_octets" 1003 (vR 646), dE P "found_octets" 1012 (vR 653), dE P "untagged_octets" 1020 (vR 660), dE P "write_answer" 1027 (vR 667), dE P "is_name_code" 1034 (vR 674), dE P "is_text_code" 1041 (vR 681), dE P "wire_word" 1048 (vR 688), dE P "box_name" 1055 (vR 695), dE P "atoms" 1063 (vR 702), dE P "flags_or" 1069 (vR 707), dE P "item_name" 1075 (vR 712), dE P "fetched_pair" 1083 (vR 719), dE P "wire_numbers" 1091 (vR 726), dE P "found_pair" 1099 (vR 733), dE P "wire_words" 1107 (vR 740), dE P "rest_text" 1113 (vR 745), dE P "status_here" 1124 (vR 752), dE P "numbered_here" 1134 (vR 759), dE P "box_here" 1145 (vR 766), dE P "found_here" 1151 (vR 771), dE P "untagged_here" 1160 (vR 778), dE P "read_answer" 1170 (vR 785), dE P "_law_SIGNS" 1188 (vR 786), dE P "_law_draw" 1198 (vR 793), dE P "_law_refused" 1206 (vR 800), dE P "_law_checked" 1214 (vR 807), dE P "_law_written" 1222 (vR 814), dE P "law" 1228 (vR 819)]) 107)
noncomputable def tmo12x6 (P : Params) : Obj := oF [(vI 1), (vI 0), (vR 20), (vI 5), (vI 0), (vR 27), (vI 14), (vI 0), (vR 55), (vI 16), (vI 0), (vR 67), (vI 18), (vI 0), (vR 79), (vI 20), (vI 0), (vR 91), (vI 22), (vI 0), (vR 103), (vI 25), (vI 0), (vR 113), (vI 27), (vI 0), (vR 118), (vI 34), (vI 0), (vR 123), (vI 42), (vI 0), (vR 130), (vI 47), (vI 0), (vR 137), (vI 54), (vI 0), (vR 144), (vI 68), (vI 0), (vR 151), (vI 70), (vI 0), (vR 158), (vI 72), (vI 0), (vR 165), (vI 86), (vI 0), (vR 172), (vI 91), (vI 0), (vR 179), (vI 108), (vI 0), (vR 186), (vI 115), (vI 0), (vR 193), (vI 137), (vI 0), (vR 200), (vI 145), (vI 0), (vR 207), (vI 169), (vI 0), (vR 214), (vI 171), (vI 0), (vR 219), (vI 173), (vI 0), (vR 224), (vI 175), (vI 0), (vR 229), (vI 177), (vI 0), (vR 234), (vI 182), (vI 0), (vR 239), (vI 189), (vI 0), (vR 246), (vI 204), (vI 0), (vR 253), (vI 218), (vI 0), (vR 260), (vI 222), (vI 0), (vR 267), (vI 226), (vI 0), (vR 272), (vI 237), (vI 0), (vR 279), (vI 244), (vI 0), (vR 307), (vI 246), (vI 0), (vR 314), (vI 248), (vI 0), (vR 321), (vI 250), (vI 0), (vR 328), (vI 252), (vI 0), (vR 335), (vI 254), (vI 0), (vR 342), (vI 256), (vI 0), (vR 349), (vI 258), (vI 0), (vR 356), (vI 263), (vI 0), (vR 363), (vI 267), (vI 0), (vR 370), (vI 418), (vI 0), (vR 557), (vI 420), (vI 0), (vR 564), (vI 428), (vI 0), (vR 572), (vI 430), (vI 0), (vR 580), (vI 434), (vI 0), (vR 586), (vI 439), (vI 0), (vR 592), (vI 453), (vI 0), (vR 599), (vI 460), (vI 0), (vR 606), (vI 462), (vI 0), (vR 611), (vI 464), (vI 0), (vR 616), (vI 466), (vI 0), (vR 621), (vI 468), (vI 0), (vR 628), (vI 474), (vI 0), (vR 633), (vI 476), (vI 0), (vR 638), (vI 481), (vI 0), (vR 645), (vI 487), (vI 0), (vR 652), (vI 497), (vI 0), (vR 659), (vI 516), (vI 0), (vR 666), (vI 522), (vI 0), (vR 673), (vI 524), (vI 0), (vR 680), (vI 526), (vI 0), (vR 687), (vI 528), (vI 0), (vR 694), (vI 530), (vI 0), (vR 701), (vI 532), (vI 0), (vR 706), (vI 536), (vI 0), (vR 711), (vI 552), (vI 0), (vR 718), (vI 556), (vI 0), (vR 725), (vI 562), (vI 0), (vR 732), (vI 566), (vI 0), (vR 739), (vI 571), (vI 0), (vR 744), (vI 577), (vI 0), (vR 751), (vI 590), (vI 0), (vR 758), (vI 599), (vI 0), (vR 765), (vI 610), (vI 0), (vR 770), (vI 631), (vI 0), (vR 777), (vI 652), (vI 0), (vR 784), (vI 667), (vI 0), (vR 792), (vI 672), (vI 0), (vR 799), (vI 677), (vI 0), (vR 806), (vI 682), (vI 0), (vR 813), (vI 687), (vI 0), (vR 818)]
noncomputable def tmo46x6 (P : Params) : Obj := Obj.mk (.type "type") none (.cls (cD (sS "PostError") [(.type "Exception")] [(vR 46), (.type "Exception"), (.type "BaseException"), (.type "object")] 45 (sS "PostError") true [] [(vR 59), (vR 71), (vR 83), (vR 95), (vR 107)] false none false)) (Array.mk [(some (vR 22)), none, (some (vS "PostError" 196)), (some (vS "PostError" 204)), (some (.builtin "Exception.__new__")), (some vT)])
noncomputable def thp6 (P : Params) : Heap := Heap.mk (Array.mk (tch0 P (tmo2x6 P) (tmo3x6 P) (tmo12x6 P) (tch1 P (tmo46x6 P) (tch2 P  (tch3 P  (tch4 P  (tch5 P  (tch6 P  [])))))))) {}
noncomputable abbrev tst6 (w : World) (os : OsState) : Shared := Shared.mk (thp6 w.params) (Array.mk []) (Drawn.mk 0 0 0 0) 1229 os
def tpo6 : Pos := Pos.mk 687 0 704 15
noncomputable def tbt6 (P : Params) : BT := (tnd (boot_o_0 P) (tnd (boot_o_1 P) (tnd (tmo3x6 P) (tnd (boot_o_7 P) (tnd (to15 P) (tnd (to31 P) (tnd (to63 P) (tnd (to127 P) (tnd (to255 P) (tnd (to511 P) tn0 tn0) (tnd (to767 P) tn0 tn0)) (tnd (to383 P) (tnd (to639 P) tn0 tn0) tn0)) (tnd (to191 P) (tnd (to319 P) (tnd (to575 P) tn0 tn0) tn0) (tnd (to447 P) (tnd (to703 P) tn0 tn0) tn0))) (tnd (to95 P) (tnd (to159 P) (tnd (to287 P) (tnd (to543 P) tn0 tn0) (tnd (to799 P) tn0 tn0)) (tnd (to415 P) (tnd (to671 P) tn0 tn0) tn0)) (tnd (to223 P) (tnd (to351 P) (tnd (to607 P) tn0 tn0) tn0) (tnd (to479 P) (tnd (to735 P) tn0 tn0) tn0)))) (tnd (to47 P) (tnd (to79 P) (tnd (to143 P) (tnd (to271 P) (tnd (to527 P) tn0 tn0) (tnd (to783 P) tn0 tn0)) (tnd (to399 P) (tnd (to655 P) tn0 tn0) tn0)) (tnd (to207 P) (tnd (to335 P) (tnd (to591 P) tn0 tn0) tn0) (tnd (to463 P) (tnd (to719 P) tn0 tn0) tn0))) (tnd (to111 P) (tnd (to175 P) (tnd (to303 P) (tnd (to559 P) tn0 tn0) (tnd (to815 P) tn0 tn0)) (tnd (to431 P) (tnd (to687 P) tn0 tn0) tn0)) (tnd (to239 P) (tnd (to367 P) (tnd (to623 P) tn0 tn0) tn0) (tnd (to495 P) (tnd (to751 P) tn0 tn0) tn0))))) (tnd (to23 P) (tnd (to39 P) (tnd (to71 P) (tnd (to135 P) (tnd (to263 P) (tnd (to519 P) tn0 tn0) (tnd (to775 P) tn0 tn0)) (tnd (to391 P) (tnd (to647 P) tn0 tn0) tn0)) (tnd (to199 P) (tnd (to327 P) (tnd (to583 P) tn0 tn0) tn0) (tnd (to455 P) (tnd (to711 P) tn0 tn0) tn0))) (tnd (to103 P) (tnd (to167 P) (tnd (to295 P) (tnd (to551 P) tn0 tn0) (tnd (to807 P) tn0 tn0)) (tnd (to423 P) (tnd (to679 P) tn0 tn0) tn0)) (tnd (to231 P) (tnd (to359 P) (tnd (to615 P) tn0 tn0) tn0) (tnd (to487 P) (tnd (to743 P) tn0 tn0) tn0)))) (tnd (to55 P) (tnd (to87 P) (tnd (to151 P) (tnd (to279 P) (tnd (to535 P) tn0 tn0) (tnd (to791 P) tn0 tn0)) (tnd (to407 P) (tnd (to663 P) tn0 tn0) tn0)) (tnd (to215 P) (tnd (to343 P) (tnd (to599 P) tn0 tn0) tn0) (tnd (to471 P) (tnd (to727 P) tn0 tn0) tn0))) (tnd (to119 P) (tnd (to183 P) (tnd (to311 P) (tnd (to567 P) tn0 tn0) tn0) (tnd (to439 P) (tnd (to695 P) tn0 tn0) tn0)) (tnd (to247 P) (tnd (to375 P) (tnd (to631 P) tn0 tn0) tn0) (tnd (to503 P) (tnd (to759 P) tn0 tn0) tn0)))))) (tnd (to11 P) (tnd (to19 P) (tnd (to35 P) (tnd (to67 P) (tnd (to131 P) (tnd (to259 P) (tnd (to515 P) tn0 tn0) (tnd (to771 P) tn0 tn0)) (tnd (to387 P) (tnd (to643 P) tn0 tn0) tn0)) (tnd (to195 P) (tnd (to323 P) (tnd (to579 P) tn0 tn0) tn0) (tnd (to451 P) (tnd (to707 P) tn0 tn0) tn0))) (tnd (to99 P) (tnd (to163 P) (tnd (to291 P) (tnd (to547 P) tn0 tn0) (tnd (to803 P) tn0 tn0)) (tnd (to419 P) (tnd (to675 P) tn0 tn0) tn0)) (tnd (to227 P) (tnd (to355 P) (tnd (to611 P) tn0 tn0) tn0) (tnd (to483 P) (tnd (to739 P) tn0 tn0) tn0)))) (tnd (to51 P) (tnd (to83 P) (tnd (to147 P) (tnd (to275 P) (tnd (to531 P) tn0 tn0) (tnd (to787 P) tn0 tn0)) (tnd (to403 P) (tnd (to659 P) tn0 tn0) tn0)) (tnd (to211 P) (tnd (to339 P) (tnd (to595 P) tn0 tn0) tn0) (tnd (to467 P) (tnd (to723 P) tn0 tn0) tn0))) (tnd (to115 P) (tnd (to179 P) (tnd (to307 P) (tnd (to563 P) tn0 tn0) (tnd (to819 P) tn0 tn0)) (tnd (to435 P) (tnd (to691 P) tn0 tn0) tn0)) (tnd (to243 P) (tnd (to371 P) (tnd (to627 P) tn0 tn0) tn0) (tnd (to499 P) (tnd (to755 P) tn0 tn0) tn0))))) (tnd (to27 P) (tnd (to43 P) (tnd (to75 P) (tnd (to139 P) (tnd (to267 P) (tnd (to523 P) tn0 tn0) (tnd (to779 P) tn0 tn0)) (tnd (to395 P) (tnd (to651 P) tn0 tn0) tn0)) (tnd (to203 P) (tnd (to331 P) (tnd (to587 P) tn0 tn0) tn0) (tnd (to459 P) (tnd (to715 P) tn0 tn0) tn0))) (tnd (to107 P) (tnd (to171 P) (tnd (to299 P) (tnd (to555 P) tn0 tn0) (tnd (to811 P) tn0 tn0)) (tnd (to427 P) (tnd (to683 P) tn0 tn0) tn0)) (tnd (to235 P) (tnd (to363 P) (tnd (to619 P) tn0 tn0) tn0) (tnd (to491 P) (tnd (to747 P) tn0 tn0) tn0)))) (tnd (to59 P) (tnd (to91 P) (tnd (to155 P) (tnd (to283 P) (tnd (to539 P) tn0 tn0) (tnd (to795 P) tn0 tn0)) (tnd (to411 P) (tnd (to667 P) tn0 tn0) tn0)) (tnd (to219 P) (tnd (to347 P) (tnd (to603 P) tn0 tn0) tn0) (tnd (to475 P) (tnd (to731 P) tn0 tn0) tn0))) (tnd (to123 P) (tnd (to187 P) (tnd (to315 P) (tnd (to571 P) tn0 tn0) tn0) (tnd (to443 P) (tnd (to699 P) tn0 tn0) tn0)) (tnd (to251 P) (tnd (to379 P) (tnd (to635 P) tn0 tn0) tn0) (tnd (to507 P) (tnd (to763 P) tn0 tn0) tn0))))))) (tnd (boot_o_5 P) (tnd (boot_o_9 P) (tnd (to17 P) (tnd (to33 P) (tnd (to65 P) (tnd (to129 P) (tnd (to257 P) (tnd (to513 P) tn0 tn0) (tnd (to769 P) tn0 tn0)) (tnd (to385 P) (tnd (to641 P) tn0 tn0) tn0)) (tnd (to193 P) (tnd (to321 P) (tnd (to577 P) tn0 tn0) tn0) (tnd (to449 P) (tnd (to705 P) tn0 tn0) tn0))) (tnd (to97 P) (tnd (to161 P) (tnd (to289 P) (tnd (to545 P) tn0 tn0) (tnd (to801 P) tn0 tn0)) (tnd (to417 P) (tnd (to673 P) tn0 tn0) tn0)) (tnd (to225 P) (tnd (to353 P) (tnd (to609 P) tn0 tn0) tn0) (tnd (to481 P) (tnd (to737 P) tn0 tn0) tn0)))) (tnd (to49 P) (tnd (to81 P) (tnd (to145 P) (tnd (to273 P) (tnd (to529 P) tn0 tn0) (tnd (to785 P) tn0 tn0)) (tnd (to401 P) (tnd (to657 P) tn0 tn0) tn0)) (tnd (to209 P) (tnd (to337 P) (tnd (to593 P) tn0 tn0) tn0) (tnd (to465 P) (tnd (to721 P) tn0 tn0) tn0))) (tnd (to113 P) (tnd (to177 P) (tnd (to305 P) (tnd (to561 P) tn0 tn0) (tnd (to817 P) tn0 tn0)) (tnd (to433 P) (tnd (to689 P) tn0 tn0) tn0)) (tnd (to241 P) (tnd (to369 P) (tnd (to625 P) tn0 tn0) tn0) (tnd (to497 P) (tnd (to753 P) tn0 tn0) tn0))))) (tnd (to25 P) (tnd (to41 P) (tnd (to73 P) (tnd (to137 P) (tnd (to265 P) (tnd (to521 P) tn0 tn0) (tnd (to777 P) tn0 tn0)) (tnd (to393 P) (tnd (to649 P) tn0 tn0) tn0)) (tnd (to201 P) (tnd (to329 P) (tnd (to585 P) tn0 tn0) tn0) (tnd (to457 P) (tnd (to713 P) tn0 tn0) tn0))) (tnd (to105 P) (tnd (to169 P) (tnd (to297 P) (tnd (to553 P) tn0 tn0) (tnd (to809 P) tn0 tn0)) (tnd (to425 P) (tnd (to681 P) tn0 tn0) tn0)) (tnd (to233 P) (tnd (to361 P) (tnd (to617 P) tn0 tn0) tn0) (tnd (to489 P) (tnd (to745 P) tn0 tn0) tn0)))) (tnd (to57 P) (tnd (to89 P) (tnd (to153 P) (tnd (to281 P) (tnd (to537 P) tn0 tn0) (tnd (to793 P) tn0 tn0)) (tnd (to409 P) (tnd (to665 P) tn0 tn0) tn0)) (tnd (to217 P) (tnd (to345 P) (tnd (to601 P) tn0 tn0) tn0) (tnd (to473 P) (tnd (to729 P) tn0 tn0) tn0))) (tnd (to121 P) (tnd (to185 P) (tnd (to313 P) (tnd (to569 P) tn0 tn0) tn0) (tnd (to441 P) (tnd (to697 P) tn0 tn0) tn0)) (tnd (to249 P) (tnd (to377 P) (tnd (to633 P) tn0 tn0) tn0) (tnd (to505 P) (tnd (to761 P) tn0 tn0) tn0)))))) (tnd (to13 P) (tnd (to21 P) (tnd (to37 P) (tnd (to69 P) (tnd (to133 P) (tnd (to261 P) (tnd (to517 P) tn0 tn0) (tnd (to773 P) tn0 tn0)) (tnd (to389 P) (tnd (to645 P) tn0 tn0) tn0)) (tnd (to197 P) (tnd (to325 P) (tnd (to581 P) tn0 tn0) tn0) (tnd (to453 P) (tnd (to709 P) tn0 tn0) tn0))) (tnd (to101 P) (tnd (to165 P) (tnd (to293 P) (tnd (to549 P) tn0 tn0) (tnd (to805 P) tn0 tn0)) (tnd (to421 P) (tnd (to677 P) tn0 tn0) tn0)) (tnd (to229 P) (tnd (to357 P) (tnd (to613 P) tn0 tn0) tn0) (tnd (to485 P) (tnd (to741 P) tn0 tn0) tn0)))) (tnd (to53 P) (tnd (to85 P) (tnd (to149 P) (tnd (to277 P) (tnd (to533 P) tn0 tn0) (tnd (to789 P) tn0 tn0)) (tnd (to405 P) (tnd (to661 P) tn0 tn0) tn0)) (tnd (to213 P) (tnd (to341 P) (tnd (to597 P) tn0 tn0) tn0) (tnd (to469 P) (tnd (to725 P) tn0 tn0) tn0))) (tnd (to117 P) (tnd (to181 P) (tnd (to309 P) (tnd (to565 P) tn0 tn0) tn0) (tnd (to437 P) (tnd (to693 P) tn0 tn0) tn0)) (tnd (to245 P) (tnd (to373 P) (tnd (to629 P) tn0 tn0) tn0) (tnd (to501 P) (tnd (to757 P) tn0 tn0) tn0))))) (tnd (to29 P) (tnd (to45 P) (tnd (to77 P) (tnd (to141 P) (tnd (to269 P) (tnd (to525 P) tn0 tn0) (tnd (to781 P) tn0 tn0)) (tnd (to397 P) (tnd (to653 P) tn0 tn0) tn0)) (tnd (to205 P) (tnd (to333 P) (tnd (to589 P) tn0 tn0) tn0) (tnd (to461 P) (tnd (to717 P) tn0 tn0) tn0))) (tnd (to109 P) (tnd (to173 P) (tnd (to301 P) (tnd (to557 P) tn0 tn0) (tnd (to813 P) tn0 tn0)) (tnd (to429 P) (tnd (to685 P) tn0 tn0) tn0)) (tnd (to237 P) (tnd (to365 P) (tnd (to621 P) tn0 tn0) tn0) (tnd (to493 P) (tnd (to749 P) tn0 tn0) tn0)))) (tnd (to61 P) (tnd (to93 P) (tnd (to157 P) (tnd (to285 P) (tnd (to541 P) tn0 tn0) (tnd (to797 P) tn0 tn0)) (tnd (to413 P) (tnd (to669 P) tn0 tn0) tn0)) (tnd (to221 P) (tnd (to349 P) (tnd (to605 P) tn0 tn0) tn0) (tnd (to477 P) (tnd (to733 P) tn0 tn0) tn0))) (tnd (to125 P) (tnd (to189 P) (tnd (to317 P) (tnd (to573 P) tn0 tn0) tn0) (tnd (to445 P) (tnd (to701 P) tn0 tn0) tn0)) (tnd (to253 P) (tnd (to381 P) (tnd (to637 P) tn0 tn0) tn0) (tnd (to509 P) (tnd (to765 P) tn0 tn0) tn0)))))))) (tnd (tmo2x6 P) (tnd (boot_o_4 P) (tnd (boot_o_8 P) (tnd (to16 P) (tnd (to32 P) (tnd (to64 P) (tnd (to128 P) (tnd (to256 P) (tnd (to512 P) tn0 tn0) (tnd (to768 P) tn0 tn0)) (tnd (to384 P) (tnd (to640 P) tn0 tn0) tn0)) (tnd (to192 P) (tnd (to320 P) (tnd (to576 P) tn0 tn0) tn0) (tnd (to448 P) (tnd (to704 P) tn0 tn0) tn0))) (tnd (to96 P) (tnd (to160 P) (tnd (to288 P) (tnd (to544 P) tn0 tn0) (tnd (to800 P) tn0 tn0)) (tnd (to416 P) (tnd (to672 P) tn0 tn0) tn0)) (tnd (to224 P) (tnd (to352 P) (tnd (to608 P) tn0 tn0) tn0) (tnd (to480 P) (tnd (to736 P) tn0 tn0) tn0)))) (tnd (to48 P) (tnd (to80 P) (tnd (to144 P) (tnd (to272 P) (tnd (to528 P) tn0 tn0) (tnd (to784 P) tn0 tn0)) (tnd (to400 P) (tnd (to656 P) tn0 tn0) tn0)) (tnd (to208 P) (tnd (to336 P) (tnd (to592 P) tn0 tn0) tn0) (tnd (to464 P) (tnd (to720 P) tn0 tn0) tn0))) (tnd (to112 P) (tnd (to176 P) (tnd (to304 P) (tnd (to560 P) tn0 tn0) (tnd (to816 P) tn0 tn0)) (tnd (to432 P) (tnd (to688 P) tn0 tn0) tn0)) (tnd (to240 P) (tnd (to368 P) (tnd (to624 P) tn0 tn0) tn0) (tnd (to496 P) (tnd (to752 P) tn0 tn0) tn0))))) (tnd (to24 P) (tnd (to40 P) (tnd (to72 P) (tnd (to136 P) (tnd (to264 P) (tnd (to520 P) tn0 tn0) (tnd (to776 P) tn0 tn0)) (tnd (to392 P) (tnd (to648 P) tn0 tn0) tn0)) (tnd (to200 P) (tnd (to328 P) (tnd (to584 P) tn0 tn0) tn0) (tnd (to456 P) (tnd (to712 P) tn0 tn0) tn0))) (tnd (to104 P) (tnd (to168 P) (tnd (to296 P) (tnd (to552 P) tn0 tn0) (tnd (to808 P) tn0 tn0)) (tnd (to424 P) (tnd (to680 P) tn0 tn0) tn0)) (tnd (to232 P) (tnd (to360 P) (tnd (to616 P) tn0 tn0) tn0) (tnd (to488 P) (tnd (to744 P) tn0 tn0) tn0)))) (tnd (to56 P) (tnd (to88 P) (tnd (to152 P) (tnd (to280 P) (tnd (to536 P) tn0 tn0) (tnd (to792 P) tn0 tn0)) (tnd (to408 P) (tnd (to664 P) tn0 tn0) tn0)) (tnd (to216 P) (tnd (to344 P) (tnd (to600 P) tn0 tn0) tn0) (tnd (to472 P) (tnd (to728 P) tn0 tn0) tn0))) (tnd (to120 P) (tnd (to184 P) (tnd (to312 P) (tnd (to568 P) tn0 tn0) tn0) (tnd (to440 P) (tnd (to696 P) tn0 tn0) tn0)) (tnd (to248 P) (tnd (to376 P) (tnd (to632 P) tn0 tn0) tn0) (tnd (to504 P) (tnd (to760 P) tn0 tn0) tn0)))))) (tnd (tmo12x6 P) (tnd (to20 P) (tnd (to36 P) (tnd (to68 P) (tnd (to132 P) (tnd (to260 P) (tnd (to516 P) tn0 tn0) (tnd (to772 P) tn0 tn0)) (tnd (to388 P) (tnd (to644 P) tn0 tn0) tn0)) (tnd (to196 P) (tnd (to324 P) (tnd (to580 P) tn0 tn0) tn0) (tnd (to452 P) (tnd (to708 P) tn0 tn0) tn0))) (tnd (to100 P) (tnd (to164 P) (tnd (to292 P) (tnd (to548 P) tn0 tn0) (tnd (to804 P) tn0 tn0)) (tnd (to420 P) (tnd (to676 P) tn0 tn0) tn0)) (tnd (to228 P) (tnd (to356 P) (tnd (to612 P) tn0 tn0) tn0) (tnd (to484 P) (tnd (to740 P) tn0 tn0) tn0)))) (tnd (to52 P) (tnd (to84 P) (tnd (to148 P) (tnd (to276 P) (tnd (to532 P) tn0 tn0) (tnd (to788 P) tn0 tn0)) (tnd (to404 P) (tnd (to660 P) tn0 tn0) tn0)) (tnd (to212 P) (tnd (to340 P) (tnd (to596 P) tn0 tn0) tn0) (tnd (to468 P) (tnd (to724 P) tn0 tn0) tn0))) (tnd (to116 P) (tnd (to180 P) (tnd (to308 P) (tnd (to564 P) tn0 tn0) tn0) (tnd (to436 P) (tnd (to692 P) tn0 tn0) tn0)) (tnd (to244 P) (tnd (to372 P) (tnd (to628 P) tn0 tn0) tn0) (tnd (to500 P) (tnd (to756 P) tn0 tn0) tn0))))) (tnd (to28 P) (tnd (to44 P) (tnd (to76 P) (tnd (to140 P) (tnd (to268 P) (tnd (to524 P) tn0 tn0) (tnd (to780 P) tn0 tn0)) (tnd (to396 P) (tnd (to652 P) tn0 tn0) tn0)) (tnd (to204 P) (tnd (to332 P) (tnd (to588 P) tn0 tn0) tn0) (tnd (to460 P) (tnd (to716 P) tn0 tn0) tn0))) (tnd (to108 P) (tnd (to172 P) (tnd (to300 P) (tnd (to556 P) tn0 tn0) (tnd (to812 P) tn0 tn0)) (tnd (to428 P) (tnd (to684 P) tn0 tn0) tn0)) (tnd (to236 P) (tnd (to364 P) (tnd (to620 P) tn0 tn0) tn0) (tnd (to492 P) (tnd (to748 P) tn0 tn0) tn0)))) (tnd (to60 P) (tnd (to92 P) (tnd (to156 P) (tnd (to284 P) (tnd (to540 P) tn0 tn0) (tnd (to796 P) tn0 tn0)) (tnd (to412 P) (tnd (to668 P) tn0 tn0) tn0)) (tnd (to220 P) (tnd (to348 P) (tnd (to604 P) tn0 tn0) tn0) (tnd (to476 P) (tnd (to732 P) tn0 tn0) tn0))) (tnd (to124 P) (tnd (to188 P) (tnd (to316 P) (tnd (to572 P) tn0 tn0) tn0) (tnd (to444 P) (tnd (to700 P) tn0 tn0) tn0)) (tnd (to252 P) (tnd (to380 P) (tnd (to636 P) tn0 tn0) tn0) (tnd (to508 P) (tnd (to764 P) tn0 tn0) tn0))))))) (tnd (boot_o_6 P) (tnd (boot_o_10 P) (tnd (to18 P) (tnd (to34 P) (tnd (to66 P) (tnd (to130 P) (tnd (to258 P) (tnd (to514 P) tn0 tn0) (tnd (to770 P) tn0 tn0)) (tnd (to386 P) (tnd (to642 P) tn0 tn0) tn0)) (tnd (to194 P) (tnd (to322 P) (tnd (to578 P) tn0 tn0) tn0) (tnd (to450 P) (tnd (to706 P) tn0 tn0) tn0))) (tnd (to98 P) (tnd (to162 P) (tnd (to290 P) (tnd (to546 P) tn0 tn0) (tnd (to802 P) tn0 tn0)) (tnd (to418 P) (tnd (to674 P) tn0 tn0) tn0)) (tnd (to226 P) (tnd (to354 P) (tnd (to610 P) tn0 tn0) tn0) (tnd (to482 P) (tnd (to738 P) tn0 tn0) tn0)))) (tnd (to50 P) (tnd (to82 P) (tnd (to146 P) (tnd (to274 P) (tnd (to530 P) tn0 tn0) (tnd (to786 P) tn0 tn0)) (tnd (to402 P) (tnd (to658 P) tn0 tn0) tn0)) (tnd (to210 P) (tnd (to338 P) (tnd (to594 P) tn0 tn0) tn0) (tnd (to466 P) (tnd (to722 P) tn0 tn0) tn0))) (tnd (to114 P) (tnd (to178 P) (tnd (to306 P) (tnd (to562 P) tn0 tn0) (tnd (to818 P) tn0 tn0)) (tnd (to434 P) (tnd (to690 P) tn0 tn0) tn0)) (tnd (to242 P) (tnd (to370 P) (tnd (to626 P) tn0 tn0) tn0) (tnd (to498 P) (tnd (to754 P) tn0 tn0) tn0))))) (tnd (to26 P) (tnd (to42 P) (tnd (to74 P) (tnd (to138 P) (tnd (to266 P) (tnd (to522 P) tn0 tn0) (tnd (to778 P) tn0 tn0)) (tnd (to394 P) (tnd (to650 P) tn0 tn0) tn0)) (tnd (to202 P) (tnd (to330 P) (tnd (to586 P) tn0 tn0) tn0) (tnd (to458 P) (tnd (to714 P) tn0 tn0) tn0))) (tnd (to106 P) (tnd (to170 P) (tnd (to298 P) (tnd (to554 P) tn0 tn0) (tnd (to810 P) tn0 tn0)) (tnd (to426 P) (tnd (to682 P) tn0 tn0) tn0)) (tnd (to234 P) (tnd (to362 P) (tnd (to618 P) tn0 tn0) tn0) (tnd (to490 P) (tnd (to746 P) tn0 tn0) tn0)))) (tnd (to58 P) (tnd (to90 P) (tnd (to154 P) (tnd (to282 P) (tnd (to538 P) tn0 tn0) (tnd (to794 P) tn0 tn0)) (tnd (to410 P) (tnd (to666 P) tn0 tn0) tn0)) (tnd (to218 P) (tnd (to346 P) (tnd (to602 P) tn0 tn0) tn0) (tnd (to474 P) (tnd (to730 P) tn0 tn0) tn0))) (tnd (to122 P) (tnd (to186 P) (tnd (to314 P) (tnd (to570 P) tn0 tn0) tn0) (tnd (to442 P) (tnd (to698 P) tn0 tn0) tn0)) (tnd (to250 P) (tnd (to378 P) (tnd (to634 P) tn0 tn0) tn0) (tnd (to506 P) (tnd (to762 P) tn0 tn0) tn0)))))) (tnd (to14 P) (tnd (to22 P) (tnd (to38 P) (tnd (to70 P) (tnd (to134 P) (tnd (to262 P) (tnd (to518 P) tn0 tn0) (tnd (to774 P) tn0 tn0)) (tnd (to390 P) (tnd (to646 P) tn0 tn0) tn0)) (tnd (to198 P) (tnd (to326 P) (tnd (to582 P) tn0 tn0) tn0) (tnd (to454 P) (tnd (to710 P) tn0 tn0) tn0))) (tnd (to102 P) (tnd (to166 P) (tnd (to294 P) (tnd (to550 P) tn0 tn0) (tnd (to806 P) tn0 tn0)) (tnd (to422 P) (tnd (to678 P) tn0 tn0) tn0)) (tnd (to230 P) (tnd (to358 P) (tnd (to614 P) tn0 tn0) tn0) (tnd (to486 P) (tnd (to742 P) tn0 tn0) tn0)))) (tnd (to54 P) (tnd (to86 P) (tnd (to150 P) (tnd (to278 P) (tnd (to534 P) tn0 tn0) (tnd (to790 P) tn0 tn0)) (tnd (to406 P) (tnd (to662 P) tn0 tn0) tn0)) (tnd (to214 P) (tnd (to342 P) (tnd (to598 P) tn0 tn0) tn0) (tnd (to470 P) (tnd (to726 P) tn0 tn0) tn0))) (tnd (to118 P) (tnd (to182 P) (tnd (to310 P) (tnd (to566 P) tn0 tn0) tn0) (tnd (to438 P) (tnd (to694 P) tn0 tn0) tn0)) (tnd (to246 P) (tnd (to374 P) (tnd (to630 P) tn0 tn0) tn0) (tnd (to502 P) (tnd (to758 P) tn0 tn0) tn0))))) (tnd (to30 P) (tnd (tmo46x6 P) (tnd (to78 P) (tnd (to142 P) (tnd (to270 P) (tnd (to526 P) tn0 tn0) (tnd (to782 P) tn0 tn0)) (tnd (to398 P) (tnd (to654 P) tn0 tn0) tn0)) (tnd (to206 P) (tnd (to334 P) (tnd (to590 P) tn0 tn0) tn0) (tnd (to462 P) (tnd (to718 P) tn0 tn0) tn0))) (tnd (to110 P) (tnd (to174 P) (tnd (to302 P) (tnd (to558 P) tn0 tn0) (tnd (to814 P) tn0 tn0)) (tnd (to430 P) (tnd (to686 P) tn0 tn0) tn0)) (tnd (to238 P) (tnd (to366 P) (tnd (to622 P) tn0 tn0) tn0) (tnd (to494 P) (tnd (to750 P) tn0 tn0) tn0)))) (tnd (to62 P) (tnd (to94 P) (tnd (to158 P) (tnd (to286 P) (tnd (to542 P) tn0 tn0) (tnd (to798 P) tn0 tn0)) (tnd (to414 P) (tnd (to670 P) tn0 tn0) tn0)) (tnd (to222 P) (tnd (to350 P) (tnd (to606 P) tn0 tn0) tn0) (tnd (to478 P) (tnd (to734 P) tn0 tn0) tn0))) (tnd (to126 P) (tnd (to190 P) (tnd (to318 P) (tnd (to574 P) tn0 tn0) tn0) (tnd (to446 P) (tnd (to702 P) tn0 tn0) tn0)) (tnd (to254 P) (tnd (to382 P) (tnd (to638 P) tn0 tn0) tn0) (tnd (to510 P) (tnd (to766 P) tn0 tn0) tn0)))))))))
noncomputable abbrev tss6 (w : World) (os : OsState) : SharedT := SharedT.mk (tbt6 w.params) 820 {} (Array.mk []) (Drawn.mk 0 0 0 0) 1229 os
-- steps [945, 1020, 842, 991, 562, 684] pre 12 block 0 fin 1 frame 14 code (vR 13) ann (some (vR 6)) q { line := 0, col := 0, endLine := 0, endCol := 0 } life true s0 11 N 10214
-- blockpos { line := 0, col := 0, endLine := 0, endCol := 0 } prepos { line := 0, col := 0, endLine := 0, endCol := 0 } finpos { line := 687, col := 0, endLine := 704, endCol := 15 } env cells 0 qual  func none locals 3 globals 3 code (vR 13) frame some 14 builtins 0

def annT : Option Value := some (.ref 6)
def q0T : Pos := Pos.mk 0 0 0 0
noncomputable def envT : Env := { scope := pw.main.scope, locals := mainNs, globals := mainNs, cells := [], code := .ref 13, frame := some 14 }
noncomputable def cT : Code := .body bdT envT
noncomputable def sT0 (w : World) (os : OsState) : Shared := Shared.mk (boot_heap w.params) (Array.mk []) boot_drawn boot_toks os
noncomputable def lT1 : List Stmt := (bdT.drop 0).take 6
noncomputable def lT2 : List Stmt := (bdT.drop 6).take 25
noncomputable def lT3 : List Stmt := (bdT.drop 31).take 29
noncomputable def lT4 : List Stmt := (bdT.drop 60).take 1
noncomputable def lT5 : List Stmt := (bdT.drop 61).take 21
noncomputable def lT6 : List Stmt := (bdT.drop 82).take 24
theorem tpre (w : World) (os : OsState) : topGo treeTable pw w 11 annT 12 (sT0 w os) (topStub pw) = some (tst0 w os, Thread.mk (denote treeTable cT) cT q0T [topFrame q0T]) := by kernel_rfl
theorem tblock (w : World) (os : OsState) : segRun treeTable pw w 11 annT 1 1 (tst0 w os) (blockOf bdT envT cT q0T [topFrame q0T]) = some (.next, tst0 w os, cT, q0T) := by kernel_rfl
theorem xseg1 (w : World) (os : OsState) : segRunT treeTable pw w 11 annT 1 946 (tss0 w os) (piecesOf lT1 envT cT q0T [topFrame q0T]) = some (.next, tss1 w os, cT, tpo1) := by kernel_rfl
theorem xseg2 (w : World) (os : OsState) : segRunT treeTable pw w 11 annT 1 1021 (tss1 w os) (piecesOf lT2 envT cT tpo1 [topFrame q0T]) = some (.next, tss2 w os, cT, tpo2) := by kernel_rfl
theorem xseg3 (w : World) (os : OsState) : segRunT treeTable pw w 11 annT 1 843 (tss2 w os) (piecesOf lT3 envT cT tpo2 [topFrame q0T]) = some (.next, tss3 w os, cT, tpo3) := by kernel_rfl
theorem xseg4 (w : World) (os : OsState) : segRunT treeTable pw w 11 annT 1 992 (tss3 w os) (piecesOf lT4 envT cT tpo3 [topFrame q0T]) = some (.next, tss4 w os, cT, tpo4) := by kernel_rfl
theorem xseg5 (w : World) (os : OsState) : segRunT treeTable pw w 11 annT 1 563 (tss4 w os) (piecesOf lT5 envT cT tpo4 [topFrame q0T]) = some (.next, tss5 w os, cT, tpo5) := by kernel_rfl
theorem xseg6 (w : World) (os : OsState) : segRunT treeTable pw w 11 annT 1 685 (tss5 w os) (piecesOf lT6 envT cT tpo5 [topFrame q0T]) = some (.next, tss6 w os, cT, tpo6) := by kernel_rfl
theorem thp0_abs (P : Params) : thp0 P = absHeap (tbt0 P) 15 {} := by kernel_rfl
theorem thp6_abs (P : Params) : thp6 P = absHeap (tbt6 P) 820 {} := by kernel_rfl
theorem tst0_abs (w : World) (os : OsState) : tst0 w os = (tss0 w os).abs := congrArg (fun h => Shared.mk h (Array.mk []) (Drawn.mk 0 0 0 0) 187 os) (thp0_abs w.params)
theorem tst6_abs (w : World) (os : OsState) : tst6 w os = (tss6 w os).abs := congrArg (fun h => Shared.mk h (Array.mk []) (Drawn.mk 0 0 0 0) 1229 os) (thp6_abs w.params)
theorem tseg1 (w : World) (os : OsState) : segRun treeTable pw w 11 annT 1 946 (tst0 w os) (piecesOf lT1 envT cT q0T [topFrame q0T]) = some (.next, (tss1 w os).abs, cT, tpo1) := by
  rw [tst0_abs]
  exact segRun_of (xseg1 w os)
theorem tseg2 (w : World) (os : OsState) : segRun treeTable pw w 11 annT 1 1021 (tss1 w os).abs (piecesOf lT2 envT cT tpo1 [topFrame q0T]) = some (.next, (tss2 w os).abs, cT, tpo2) := by
  exact segRun_of (xseg2 w os)
theorem tseg3 (w : World) (os : OsState) : segRun treeTable pw w 11 annT 1 843 (tss2 w os).abs (piecesOf lT3 envT cT tpo2 [topFrame q0T]) = some (.next, (tss3 w os).abs, cT, tpo3) := by
  exact segRun_of (xseg3 w os)
theorem tseg4 (w : World) (os : OsState) : segRun treeTable pw w 11 annT 1 992 (tss3 w os).abs (piecesOf lT4 envT cT tpo3 [topFrame q0T]) = some (.next, (tss4 w os).abs, cT, tpo4) := by
  exact segRun_of (xseg4 w os)
theorem tseg5 (w : World) (os : OsState) : segRun treeTable pw w 11 annT 1 563 (tss4 w os).abs (piecesOf lT5 envT cT tpo4 [topFrame q0T]) = some (.next, (tss5 w os).abs, cT, tpo5) := by
  exact segRun_of (xseg5 w os)
theorem tseg6 (w : World) (os : OsState) : segRun treeTable pw w 11 annT 1 685 (tss5 w os).abs (piecesOf lT6 envT cT tpo5 [topFrame q0T]) = some (.next, tst6 w os, cT, tpo6) := by
  rw [tst6_abs]
  exact segRun_of (xseg6 w os)
theorem tfin (w : World) (os : OsState) : topRun treeTable pw w 11 annT 2 (tst6 w os) ⟨doneF .next, cT, tpo6, [topFrame q0T]⟩ = some (tst6 w os) := by kernel_rfl
theorem tbody : bdT = lT1 ++ (lT2 ++ (lT3 ++ (lT4 ++ (lT5 ++ (lT6 ++ []))))) := by kernel_rfl
theorem trun (w : World) (os : OsState) : topRun treeTable pw w 11 annT (12 + (1 + (946 + (1021 + (843 + (992 + (563 + (685 + 2)))))))) (sT0 w os) (topStub pw) = some (tst6 w os) := by
  refine go_top (tpre w os) ?_
  show topRun treeTable pw w 11 annT _ (tst0 w os) ⟨denote treeTable (.body bdT envT), cT, q0T, [topFrame q0T]⟩ = _
  refine piece_block (tblock w os) ?_
  have e : restOf bdT envT cT q0T [topFrame q0T] = restOf (lT1 ++ (lT2 ++ (lT3 ++ (lT4 ++ (lT5 ++ (lT6 ++ [])))))) envT cT q0T [topFrame q0T] := congrArg (fun l => restOf l envT cT q0T [topFrame q0T]) tbody
  rw [e]
  exact piece_app (tseg1 w os) (piece_app (tseg2 w os) (piece_app (tseg3 w os) (piece_app (tseg4 w os) (piece_app (tseg5 w os) (piece_app (tseg6 w os) (tfin w os))))))

abbrev looseT : List PySem.Str := [PySem.Str.ofString "PostError", PySem.Str.ofString "literal_octets", PySem.Str.ofString "string_octets", PySem.Str.ofString "astring_octets", PySem.Str.ofString "write_value"]
noncomputable def hookT : Hook := kHook hd.heap_1 [2, 3, 15, 17, 18, 20, 21, 22, 29, 30, 32, 33, 35, 36, 37, 39, 40, 42, 43, 44, 45, 46, 47, 50, 57, 58, 59, 62, 69, 70, 71, 74, 81, 82, 83, 86, 93, 94, 95, 98, 105, 106, 107, 110, 113, 114, 115, 118, 119, 120, 123, 124, 125, 127, 128, 130, 131, 132, 134, 135, 137, 138, 139, 141, 142, 144, 145, 146, 148, 149, 151, 152, 153, 155, 156, 158, 159, 160, 162, 163, 165, 166, 167, 169, 170, 172, 173, 174, 176, 177, 179, 180, 181, 183, 184, 186, 187, 188, 190, 191, 193, 194, 195, 197, 198, 200, 201, 202, 204, 205, 207, 208, 209, 211, 212, 214, 215, 216, 219, 220, 221, 224, 225, 226, 229, 230, 231, 234, 235, 236, 239, 240, 241, 243, 244, 246, 247, 248, 250, 251, 253, 254, 255, 257, 258, 260, 261, 262, 264, 265, 267, 268, 269, 272, 273, 281, 283, 284, 286, 287, 288, 290, 291, 293, 294, 295, 296, 297, 298, 299, 302, 304, 305, 307, 308, 309, 311, 312, 314, 315, 316, 318, 319, 321, 322, 323, 325, 326, 328, 329, 330, 332, 333, 335, 336, 337, 339, 340, 342, 343, 344, 346, 347, 349, 350, 351, 353, 354, 356, 357, 358, 360, 361, 363, 364, 372, 373, 375, 376, 378, 379, 380, 382, 383, 385, 386, 387, 389, 390, 392, 393, 394, 396, 397, 399, 400, 401, 403, 404, 406, 407, 408, 410, 411, 413, 414, 415, 417, 418, 420, 421, 422, 424, 425, 427, 428, 429, 431, 432, 434, 435, 436, 438, 439, 441, 442, 443, 445, 446, 448, 449, 450, 452, 453, 455, 456, 457, 459, 460, 462, 463, 464, 466, 467, 469, 470, 471, 473, 474, 476, 477, 478, 480, 481, 483, 484, 485, 487, 488, 490, 491, 492, 494, 495, 497, 498, 499, 501, 502, 504, 505, 506, 508, 509, 511, 512, 513, 515, 516, 518, 519, 520, 522, 523, 525, 526, 527, 529, 530, 532, 533, 534, 537, 538, 539, 540, 542, 543, 545, 546, 547, 548, 549, 550, 551, 554, 557, 558, 559, 561, 562, 564, 565, 566, 567, 569, 570, 572, 573, 574, 575, 577, 578, 580, 581, 582, 583, 586, 587, 588, 589, 592, 593, 594, 596, 597, 599, 600, 601, 603, 604, 606, 607, 608, 611, 612, 613, 616, 617, 618, 621, 622, 623, 625, 626, 628, 629, 630, 633, 634, 635, 638, 639, 640, 642, 643, 645, 646, 647, 649, 650, 652, 653, 654, 656, 657, 659, 660, 661, 663, 664, 666, 667, 668, 670, 671, 673, 674, 675, 677, 678, 680, 681, 682, 684, 685, 687, 688, 689, 691, 692, 694, 695, 696, 698, 699, 701, 702, 703, 706, 707, 708, 711, 712, 713, 715, 716, 718, 719, 720, 722, 723, 725, 726, 727, 729, 730, 732, 733, 734, 736, 737, 739, 740, 741, 744, 745, 746, 748, 749, 751, 752, 753, 755, 756, 758, 759, 760, 762, 763, 765, 766, 767, 770, 771, 772, 774, 775, 777, 778, 779, 781, 782, 784, 785, 786, 787, 789, 790, 792, 793, 794, 796, 797, 799, 800, 801, 803, 804, 806, 807, 808, 810, 811, 813, 814, 815, 818, 819] (fun _ => by kernel_rfl)
noncomputable abbrev xtT (s : Shared) : Bool := xlAt hd.view_1 [] s && recOk (RowW.records PySem.Challenge.rw_nz0333_01.row.toRowW) s
theorem tsize (w : World) : ((boot_heap w.params).isNs mainGlobals && (Array.mk ([] : List GenState)).size == 0, (boot_heap w.params).objs.size, (boot_heap w.params).nsMap mainGlobals "__annotations__") = (true, 11, annT) := by kernel_rfl
noncomputable abbrev qT := hd.view_1
noncomputable abbrev modsT := importedModules pw.main.body
/-- the last state's heap, read over the tree -/
noncomputable def getT (P : Params) (a : Addr) : Option Obj := match Nat.blt a 820 with
  | true => alive (((tbt6 P).get a).getD default)
  | false => none
theorem abs_getD {t : BT} {n : Nat} {life : Life} {a : Nat} (h : a < n) : (absHeap t n life).get? a = alive ((t.get a).getD default) := by
  unfold Heap.get?
  rw [absHeap_at, if_pos h]
  show (match some ((t.get a).getD default) with | some ⟨_, _, .freed, _⟩ => none | o => o) = alive ((t.get a).getD default)
  generalize (t.get a).getD default = o
  obtain ⟨c, d, dt, sl⟩ := o
  cases dt <;> rfl
theorem get_T (P : Params) : Heap.get? (thp6 P) = getT P := by
  funext a
  rw [thp6_abs]
  unfold getT
  cases e : Nat.blt a 820 with
  | true => exact abs_getD (Nat.le_of_ble_eq_true e)
  | false => exact abs_get_none fun q => by rw [show Nat.blt a 820 = true from Nat.ble_eq_true_of_le q] at e; cases e
/-- a text as one number: equal numbers, equal texts -/
noncomputable def codeL (l : List Nat) : Nat := List.rec 0 (fun c _ a => Nat.mul (Nat.pow 2 c) (Nat.succ (Nat.mul 2 a))) l
theorem two_odd {a b x y : Nat} (h : 2 ^ a * (2 * x + 1) = 2 ^ b * (2 * y + 1)) : a = b ∧ x = y := by
  induction a generalizing b with
  | zero =>
    cases b with
    | zero => exact ⟨rfl, by simp at h; omega⟩
    | succ b => rw [Nat.pow_succ, Nat.mul_comm (2 ^ b) 2, Nat.mul_assoc] at h; generalize 2 ^ b * (2 * y + 1) = z at h; simp at h; omega
  | succ a ih =>
    cases b with
    | zero => rw [Nat.pow_succ, Nat.mul_comm (2 ^ a) 2, Nat.mul_assoc] at h; generalize 2 ^ a * (2 * x + 1) = z at h; simp at h; omega
    | succ b =>
      rw [Nat.pow_succ, Nat.pow_succ, Nat.mul_comm (2 ^ a) 2, Nat.mul_comm (2 ^ b) 2, Nat.mul_assoc, Nat.mul_assoc] at h
      obtain ⟨rfl, e⟩ := ih (Nat.eq_of_mul_eq_mul_left (by decide) h)
      exact ⟨rfl, e⟩
theorem codeL_inj : ∀ {l l' : List Nat}, codeL l = codeL l' → l = l'
  | [], [], _ => rfl
  | [], c :: r, h => by
    have e : (0 : Nat) = 2 ^ c * (2 * codeL r + 1) := h
    have : 0 < 2 ^ c * (2 * codeL r + 1) := Nat.mul_pos (Nat.pow_pos (by decide)) (by omega)
    omega
  | c :: r, [], h => by
    have e : 2 ^ c * (2 * codeL r + 1) = (0 : Nat) := h
    have : 0 < 2 ^ c * (2 * codeL r + 1) := Nat.mul_pos (Nat.pow_pos (by decide)) (by omega)
    omega
  | c :: r, c' :: r', h => by
    have e : 2 ^ c * (2 * codeL r + 1) = 2 ^ c' * (2 * codeL r' + 1) := h
    obtain ⟨rfl, q⟩ := two_odd e
    rw [codeL_inj q]
noncomputable def codeS (x : PySem.Str) : Nat := codeL x.cps.toList
theorem codeS_inj {x y : PySem.Str} (h : codeS x = codeS y) : x = y := by
  obtain ⟨⟨x⟩⟩ := x
  obtain ⟨⟨y⟩⟩ := y
  rw [show x = y from codeL_inj h]
/-- texts compared by their numbers: the kernel does it at once -/
noncomputable def decQ (x y : PySem.Str) : Decidable (x = y) := match h : Nat.beq (codeS x) (codeS y) with
  | true => isTrue (codeS_inj (Nat.eq_of_beq_eq_true h))
  | false => isFalse fun e => by rw [e, Nat.beq_refl] at h; cases h
theorem dec_Q : instDecidableEqStr = decQ := by
  funext x y
  exact Subsingleton.elim _ _
def recA : Stmt → Option DefRec
  | .FunctionDef name a b _ _ _ sc _ _ pos => some ⟨name, a, b, sc, pos⟩
  | _ => none
noncomputable def recsL : List DefRec := qT.main.body.filterMap recA
theorem e_defs : (recsOf qT, drecsOf qT, wdefsOf qT) = (recsL, [], []) := by
  delta recsOf drecsOf wdefsOf Program.theDef
  rw [dec_Q]
  kernel_rfl
theorem e_recs : recsOf qT = recsL := (Prod.mk.inj e_defs).1
theorem e_drecs : drecsOf qT = [] := (Prod.mk.inj (Prod.mk.inj e_defs).2).1
theorem e_wdefs : wdefsOf qT = [] := (Prod.mk.inj (Prod.mk.inj e_defs).2).2
noncomputable def wlL : List (PySem.Str × WData) := ([sS "SHIFT_SIGNS", sS "CRLF", sS "SPECIALS", sS "VALUE_SPECIALS", sS "_law_SIGNS"] : List PySem.Str).filterMap fun x => (theConstW qT x).map fun d => (x, d)
/-- the statements that can bind a constant -/
def isC : Stmt → Bool
  | .Assign [.Name _ _] _ _ => true
  | .AnnAssign (.Name _ _) _ (some _) _ _ => true
  | _ => false
def lessP (p : Program) : Program := { p with main := { p.main with body := p.main.body.filter isC } }
theorem const_less (p : Program) (x : PySem.Str) : p.theConst x = (lessP p).theConst x := by
  unfold Program.theConst lessP
  dsimp only
  rw [List.filter_filter]
  congr 2
  funext st
  unfold isC
  split <;> first | rfl | simp_all
theorem constW_less (p : Program) (x : PySem.Str) : theConstW p x = theConstW (lessP p) x := by
  unfold theConstW lessP
  dsimp only
  rw [List.filter_filter]
  congr 2
  funext st
  unfold isC
  split <;> first | rfl | simp_all
theorem wlits_less (p : Program) : wlitsOf p = p.boundNames.eraseDups.filterMap fun x => if startupNames.contains x || ((lessP p).theConst x).isSome then none else (theConstW (lessP p) x).map fun d => (x, d) := by
  unfold wlitsOf
  congr 1
  funext x
  rw [const_less, constW_less]
theorem e_wl : wlitsOf qT = wlL := by
  refine (wlits_less _).trans ?_
  rw [dec_Q]
  kernel_rfl
noncomputable def litL : List (PySem.Str × PyData) := ([sS "MOST", sS "QUOTE", sS "BACKSLASH", sS "MOST_DEPTH", sS "MOST_FIGURES", sS "MOST_COUNT_FIGURES", sS "MOST_QUOTED", sS "STATES"] : List PySem.Str).filterMap fun x => (qT.theConst x).map fun d => (x, d)
theorem e_lits : litsOf qT = litL := by
  kernel_rfl
noncomputable def looseL : List PySem.Str := [sS "PostError", sS "literal_octets", sS "string_octets", sS "astring_octets", sS "write_value", sS "Wire", sS "SHIFT_SIGNS", sS "CRLF", sS "SPECIALS", sS "VALUE_SPECIALS", sS "_law_SIGNS"]
theorem e_loose : looseW qT looseT = looseL := by
  delta looseW looseD heldW
  rw [e_drecs, e_wdefs, e_wl]
  kernel_rfl
theorem tl1 (w : World) (os : OsState) : seen ((recsOf qT).map (·.name)) (ownsOf qT) [] { tst6 w os with gens := #[] } = expectedOf qT := by
  delta expectedOf
  rw [e_recs]
  delta seen
  delta Heap.shapeAt Heap.ownExcOk Heap.quietOk Heap.noLimitOk Heap.noDigitsOk
  delta Heap.fnAt Heap.clsAt Heap.codeRecOk Heap.isNs
  delta Heap.nsMap
  dsimp only
  rw [get_T]
  delta nsFind Value.isStr
  rw [dec_Q]
  kernel_rfl
theorem tl3a (w : World) (os : OsState) : (tst6 w os).heap.keysOk (looseW qT looseT) ((recsOf qT).map (·.name)) ((litsOf qT).map (·.1)) ((clssOf qT (looseW qT looseT)).map (·.name)) = true := by
  rw [e_loose, e_recs, e_lits]
  delta Heap.keysOk Heap.nsKeys
  dsimp only
  rw [get_T, dec_Q]
  kernel_rfl
theorem tl4 (w : World) (os : OsState) : tabsOk qT (tst6 w os) = true := by
  delta tabsOk
  rw [e_recs]
  delta Heap.tab0Ok Heap.bmainOk valsOk Heap.noSeerOk
  delta Heap.fnAt Heap.tab0At Heap.isNs Heap.constOk
  delta Heap.nsMap
  dsimp only
  rw [get_T]
  delta nsFind Value.isStr
  rw [dec_Q]
  kernel_rfl
theorem tl5 (w : World) (os : OsState) : pinSeenD qT (drecsOf qT) (tst6 w os) = pinGoodD (drecsOf qT) := by
  rw [e_drecs]
  kernel_rfl
theorem tl6 (w : World) (os : OsState) : plainSeenE qT (looseW qT looseT) (tst6 w os) = plainGoodE qT (looseW qT looseT) := by
  rw [e_loose]
  delta plainSeenE plainGoodE
  delta Heap.plainShapeAt
  delta Heap.shapeAt Heap.clsAt
  delta Heap.fnAt Heap.codeRecOk Heap.isNs
  delta Heap.nsMap
  dsimp only
  rw [get_T]
  delta nsFind Value.isStr
  rw [dec_Q]
  kernel_rfl
theorem tl7 (w : World) (os : OsState) : plainSeenD qT looseT (tst6 w os) = plainGoodD qT looseT := by
  delta plainSeenD plainGoodD
  delta Heap.plainShapeAtD
  delta Heap.shapeAt Heap.clsAt Heap.methDfltOk
  delta Heap.fnAt Heap.codeRecOk Heap.isNs
  delta Heap.nsMap
  dsimp only
  rw [get_T]
  delta nsFind Value.isStr
  rw [dec_Q]
  kernel_rfl
theorem tl8 (w : World) (os : OsState) : wideSeen qT (tst6 w os) = wideGood qT := by
  delta wideSeen wideGood
  rw [e_wdefs, e_wl]
  kernel_rfl
theorem tl0 (w : World) (os : OsState) : (staticsOk (importedModules pw.main.body) (boot_heap w.params) (thp6 w.params) && namesBound pw (thp6 w.params) && gensDone (tst6 w os) && laidKept (boot_heap w.params) (thp6 w.params)) = true := by
  delta staticsOk namesBound laidKept
  delta Heap.isNs Heap.nsKeys Heap.nsMap
  rw [get_T]
  delta nsFind Value.isStr
  rw [dec_Q]
  kernel_rfl
theorem tl2 (w : World) (os : OsState) : (tst6 w os).heap.bltView = bltViewBooted := by kernel_rfl
theorem tl3b (w : World) (os : OsState) : (tst6 w os).heap.accountedOkI modsT = true := by kernel_rfl
theorem tl3c (w : World) (os : OsState) : (tst6 w os).heap.isNs mainGlobals = true := by kernel_rfl
theorem tl3d (w : World) (os : OsState) : (tst6 w os).heap.isNs builtinsNs = true := by kernel_rfl
theorem tl3e (w : World) (os : OsState) : tablesOk qT (tst6 w os).heap = true := by kernel_rfl
theorem tl3f (w : World) (os : OsState) : xtT (tst6 w os) = true := by kernel_rfl
theorem tl9 (w : World) (os : OsState) : clsSeenW qT looseT (tst6 w os) = clsGoodW qT looseT := by kernel_rfl
theorem tseen (w : World) (os : OsState) : openSeen hd.view_1 looseT (importedModules pw.main.body) xtT true (tst6 w os) = openGood hd.view_1 looseT := by
  delta openSeen openGood
  exact congr (congrArg Prod.mk (tl1 w os)) (congr (congrArg Prod.mk (tl2 w os)) (congr (congrArg Prod.mk (look_both (look_both (look_both (look_both (look_both (look_both (tl3a w os) (tl3b w os)) (tl3c w os)) (tl3d w os)) (tl3e w os)) (tl3f w os)) rfl)) (congr (congrArg Prod.mk (tl4 w os)) (congr (congrArg Prod.mk (tl5 w os)) (congr (congrArg Prod.mk (tl6 w os)) (congr (congrArg Prod.mk (tl7 w os)) (congr (congrArg Prod.mk (tl8 w os)) (tl9 w os))))))))
theorem tlh (w : World) (os : OsState) : hookT.obs (tst6 w os) = hookT.val w := by
  show List.map (Heap.get? (thp6 w.params)) _ = _
  rw [get_T]
  kernel_rfl
theorem tlooks (w : World) : (fun os => ((staticsOk (importedModules pw.main.body) (boot_heap w.params) (thp6 w.params) && namesBound pw (thp6 w.params) && gensDone (tst6 w os) && laidKept (boot_heap w.params) (thp6 w.params)),
        openSeen hd.view_1 looseT (importedModules pw.main.body) xtT true (tst6 w os), hookT.obs (tst6 w os))) = fun _ => (true, openGood hd.view_1 looseT, hookT.val w) :=
  funext fun os => Prod.ext (tl0 w os) (Prod.ext (tseen w os) (tlh w os))
theorem tplain : opening pw = plainProg pw.main.scope.names := by kernel_rfl
theorem tfence (s : Shared) : fenceModules? pw s = some s := by kernel_rfl
theorem top_left : LeftO pw hd.view_1 looseT xtT hookT.obs hookT.val 10214 :=
  LeftO.of_pieces (H₀ := fun P => boot_heap P) (H₁ := fun P => thp6 P) (boot_open tplain (by decide) tfence) tsize trun (by decide) tlooks

local macro_rules | `(tactic| walk_at $s:str) => `(tactic| k_extra $s)
noncomputable abbrev Lz : List PySem.Str := looseW hd.view_1 [Str.ofString "PostError", Str.ofString "literal_octets", Str.ofString "string_octets", Str.ofString "astring_octets", Str.ofString "write_value"] ++ List.map (fun x => x.name) (recsOf hd.view_1) ++ List.map (fun x => x.fst) (litsOf hd.view_1) ++ List.map (fun x => x.name) (clssOf hd.view_1 (looseW hd.view_1 [Str.ofString "PostError", Str.ofString "literal_octets", Str.ofString "string_octets", Str.ofString "astring_octets", Str.ofString "write_value"]))
/-- n is one of the octets of l -/
def oneOf (l : List UInt8) (n : Int) : Bool := l.any fun c => decide (n = (c.toNat : Int))
def isPr (n : Int) : Bool := decide (33 ≤ n ∧ n ≤ 126)
def isTx (n : Int) : Bool := decide (32 ≤ n ∧ n ≤ 126)
def isFig (n : Int) : Bool := decide (48 ≤ n ∧ n ≤ 57)
def isAtm (n : Int) : Bool := isPr n && !oneOf [40, 41, 123, 37, 42, 34, 92, 93] n
def isAst (n : Int) : Bool := isAtm n || decide (n = 93)
def isTag (n : Int) : Bool := isAst n && decide (n ≠ 43)
def isVal (n : Int) : Bool := isPr n && !oneOf [40, 41, 123, 34, 93] n
def isNam (n : Int) : Bool := isPr n && !oneOf [91, 93, 40, 41] n
theorem isPr_iff {n : Int} : isPr n = true ↔ 33 ≤ n ∧ n ≤ 126 := decide_eq_true_iff
theorem byte_has (l : List UInt8) (n : Int) (h0 : 0 ≤ n) (h1 : n < 256) : l.toArray.contains n.toNat.toUInt8 = oneOf l n := by
  have e : ∀ c : UInt8, (n.toNat.toUInt8 == c) = decide (n = (c.toNat : Int)) := fun c => by
    rw [Bool.eq_iff_iff, beq_iff_eq, decide_eq_true_iff]
    constructor
    · intro h
      have : n.toNat.toUInt8.toNat = c.toNat := by rw [h]
      rw [show n.toNat.toUInt8.toNat = n.toNat % 256 from by simp [Nat.toUInt8]] at this
      omega
    · intro h
      apply UInt8.toNat_inj.mp
      rw [show n.toNat.toUInt8.toNat = n.toNat % 256 from by simp [Nat.toUInt8]]
      omega
  unfold oneOf
  rw [List.contains_toArray]
  induction l with
  | nil => rfl
  | cons c r ih => rw [List.contains_cons, List.any_cons, ih, e]
theorem gives_has (b : Array UInt8) (n : Int) (t u : Tok) (h0 : 0 ≤ n) (h1 : n < 256) : Gives (Builtin.«bytes.__contains__» ⟨[.bytes b t, .int n u], []⟩) (.val (.bool (b.contains n.toNat.toUInt8))) := by
  refine .of_wp fun M A E s Q hq => ?_
  have e : ¬ ((decide (n < 0) || decide (n ≥ 256)) = true) := by simp; omega
  show wpAny M A (Builtin.Bytes.containsIn "bytes.__contains__" (.bytes b t) (.int n u) >>= fun r => ret (.bool r)) _ E s
  refine wpAny_bind ?_
  unfold Builtin.Bytes.containsIn
  refine wpAny_bind ?_
  refine wpAny_of_eq (a := Except.ok n) rfl ?_
  rw [KBy.buffer_eq]
  refine wpAny_bind ?_
  refine wpAny_pure ?_
  show wpAny M A (if (decide (n < 0) || decide (n ≥ 256)) = true then _ else _) _ E s
  rw [if_neg e]
  exact wpAny_pure (wpAny_pure ⟨_, rfl, hq⟩)
section
variable {prog : Program} {w : World} {A : Around} {E : Value → Shared → Prop} {s : Shared} {l : List UInt8} {n : Int} {t u : Tok} {Q : Value → Shared → Prop}
theorem notIn_bytes (h0 : 0 ≤ n) (h1 : n < 256) (h : Q (.bool (!oneOf l n)) s) : wpAny (model prog w) A (compareOp .NotIn (.int n u) (.bytes l.toArray t)) Q E s :=
  notIn_gives (typeIs_bytes s _ t) FB.slot_bytes_contains FB.entry_bytes_contains (FB.args_bytes_contains_2 _ _) (gives_has _ n t u h0 h1) (by rw [← byte_has l n h0 h1] at h; exact h)
theorem in_bytes (h0 : 0 ≤ n) (h1 : n < 256) (h : Q (.bool (oneOf l n)) s) : wpAny (model prog w) A (compareOp .In (.int n u) (.bytes l.toArray t)) Q E s :=
  in_gives (typeIs_bytes s _ t) FB.slot_bytes_contains FB.entry_bytes_contains (FB.args_bytes_contains_2 _ _) (gives_has _ n t u h0 h1) (by rw [← byte_has l n h0 h1] at h; exact h)
end
theorem ret_b {h₀ h' : Heap} {L : Addr} {m : PySem.Str → Option Value} {s : Shared} {Q : Value → Shared → Prop} {news : List (Addr × Obj)} {x y : Bool} {tk' : Nat}
    (hret : ∀ (h' : Heap) (tk' : Nat), Fr h₀ L h' m → News h₀ L h' news → Q (.bool x) { s with heap := h', toks := tk' }) (e : y = x) (F : Fr h₀ L h' m) (N : News h₀ L h' news) : Q (.bool y) { s with heap := h', toks := tk' } := by
  subst e; exact hret _ _ F N

theorem reg1 : True := by
  k_with "compareOp NotIn int bytes" => ((with_reducible rename isPr _ = true => hpr9); have hpr8 := isPr_iff.mp hpr9; refine notIn_bytes (l := _) (by omega) (by omega) ?_)
  trivial
theorem reg2 : True := by
  k_with "eval Call" => refine Call_ ?_
  k_with "eval Call Attribute" => refine MethodCall_ ?_
  trivial
theorem c_is_printable {w : World} {mean : ExcName → Option Value} {mg mb : PySem.Str → Option Value} {dp un : Nat} {gd : Option (List Code)} {cn : PySem.Str} {cs : Scope} {a : Addr} {ccd : Value} {cl : List (PySem.Str × Addr)} {outer : List Env} {A₀ : Around} {base h₀ : Heap} {L : Addr} {m : PySem.Str → Option Value} {s : Shared} {Q E : Value → Shared → Prop} {news : List (Addr × Obj)} {n : Int} {t : Tok}
    (B : Below A₀ base outer h₀) (F : Fr h₀ L s.heap m) (X : (hd.heap_1 w.params).In h₀) (N : News h₀ L s.heap news) (T : Top topProg Lz mean mg mb h₀) (hk : cs.kind = .function) (hp : True) (hdp : dp + 1 < recursionLimit) (hun : un + 8 < cLine)
    (hret : ∀  (h' : Heap) (tk' : Nat), Fr h₀ L h' m → News h₀ L h' news → Q (.bool (isPr n)) { s with heap := h', toks := tk' }) :
    wpAny (model PySem.Challenge.rw_nz0333_01.row.prog w) (ktrTop dp un gd cn cs L a ccd cl outer) (call (.ref 308) [.int n t]) Q E s := by
  refine wpAny_call ?_
  k_dflt cell_enter
  k_steps
  all_goals exact ret_b hret (by simp only [isPr, decide_eq_decide]; (first | omega | (simp; omega))) (by k_asm) (by k_asm)

theorem reg3 : True := by
  k_with "call ref" => (k_here; (with_reducible show wpAny _ _ (call (Value.ref 308) _) _ _ _); k_dflt (refine' c_is_printable ?k1 ?k2 ?k3 ?k4 ?k5 ?kK ?kp ?kd ?ku ?_; (case k1 => k_asm); (case k2 => k_asm); (case k3 => k_asm); (case k4 => k_asm); (case k5 => k_asm); (case kK => first | exact rfl | assumption); (case kp => trivial); (case kd => ktr_room); (case ku => ktr_units); k_whole); intro _ _ _ _; (try dsimp only); (try k_fold))
  trivial
theorem c_is_text_code {w : World} {mean : ExcName → Option Value} {mg mb : PySem.Str → Option Value} {dp un : Nat} {gd : Option (List Code)} {cn : PySem.Str} {cs : Scope} {a : Addr} {ccd : Value} {cl : List (PySem.Str × Addr)} {outer : List Env} {A₀ : Around} {base h₀ : Heap} {L : Addr} {m : PySem.Str → Option Value} {s : Shared} {Q E : Value → Shared → Prop} {news : List (Addr × Obj)} {n : Int} {t : Tok}
    (B : Below A₀ base outer h₀) (F : Fr h₀ L s.heap m) (X : (hd.heap_1 w.params).In h₀) (N : News h₀ L s.heap news) (T : Top topProg Lz mean mg mb h₀) (hk : cs.kind = .function) (hp : True) (hdp : dp + 1 < recursionLimit) (hun : un + 8 < cLine)
    (hret : ∀  (h' : Heap) (tk' : Nat), Fr h₀ L h' m → News h₀ L h' news → Q (.bool (isTx n)) { s with heap := h', toks := tk' }) :
    wpAny (model PySem.Challenge.rw_nz0333_01.row.prog w) (ktrTop dp un gd cn cs L a ccd cl outer) (call (.ref 681) [.int n t]) Q E s := by
  refine wpAny_call ?_
  k_dflt cell_enter
  k_steps
  all_goals exact ret_b hret (by simp only [isTx, decide_eq_decide]; (first | omega | (simp; omega))) (by k_asm) (by k_asm)

theorem reg4 : True := by
  k_with "call ref" => (k_here; (with_reducible show wpAny _ _ (call (Value.ref 681) _) _ _ _); k_dflt (refine' c_is_text_code ?k1 ?k2 ?k3 ?k4 ?k5 ?kK ?kp ?kd ?ku ?_; (case k1 => k_asm); (case k2 => k_asm); (case k3 => k_asm); (case k4 => k_asm); (case k5 => k_asm); (case kK => first | exact rfl | assumption); (case kp => trivial); (case kd => ktr_room); (case ku => ktr_units); k_whole); intro _ _ _ _; (try dsimp only); (try k_fold))
  trivial
theorem c_is_figure {w : World} {mean : ExcName → Option Value} {mg mb : PySem.Str → Option Value} {dp un : Nat} {gd : Option (List Code)} {cn : PySem.Str} {cs : Scope} {a : Addr} {ccd : Value} {cl : List (PySem.Str × Addr)} {outer : List Env} {A₀ : Around} {base h₀ : Heap} {L : Addr} {m : PySem.Str → Option Value} {s : Shared} {Q E : Value → Shared → Prop} {news : List (Addr × Obj)} {n : Int} {t : Tok}
    (B : Below A₀ base outer h₀) (F : Fr h₀ L s.heap m) (X : (hd.heap_1 w.params).In h₀) (N : News h₀ L s.heap news) (T : Top topProg Lz mean mg mb h₀) (hk : cs.kind = .function) (hp : True) (hdp : dp + 1 < recursionLimit) (hun : un + 8 < cLine)
    (hret : ∀  (h' : Heap) (tk' : Nat), Fr h₀ L h' m → News h₀ L h' news → Q (.bool (isFig n)) { s with heap := h', toks := tk' }) :
    wpAny (model PySem.Challenge.rw_nz0333_01.row.prog w) (ktrTop dp un gd cn cs L a ccd cl outer) (call (.ref 350) [.int n t]) Q E s := by
  refine wpAny_call ?_
  k_dflt cell_enter
  k_steps
  all_goals exact ret_b hret (by simp only [isFig, decide_eq_decide]; (first | omega | (simp; omega))) (by k_asm) (by k_asm)

theorem reg5 : True := by
  k_with "call ref" => (k_here; (with_reducible show wpAny _ _ (call (Value.ref 350) _) _ _ _); k_dflt (refine' c_is_figure ?k1 ?k2 ?k3 ?k4 ?k5 ?kK ?kp ?kd ?ku ?_; (case k1 => k_asm); (case k2 => k_asm); (case k3 => k_asm); (case k4 => k_asm); (case k5 => k_asm); (case kK => first | exact rfl | assumption); (case kp => trivial); (case kd => ktr_room); (case ku => ktr_units); k_whole); intro _ _ _ _; (try dsimp only); (try k_fold))
  trivial
theorem c_is_atom_code {w : World} {mean : ExcName → Option Value} {mg mb : PySem.Str → Option Value} {dp un : Nat} {gd : Option (List Code)} {cn : PySem.Str} {cs : Scope} {a : Addr} {ccd : Value} {cl : List (PySem.Str × Addr)} {outer : List Env} {A₀ : Around} {base h₀ : Heap} {L : Addr} {m : PySem.Str → Option Value} {s : Shared} {Q E : Value → Shared → Prop} {news : List (Addr × Obj)} {n : Int} {t : Tok}
    (B : Below A₀ base outer h₀) (F : Fr h₀ L s.heap m) (X : (hd.heap_1 w.params).In h₀) (N : News h₀ L s.heap news) (T : Top topProg Lz mean mg mb h₀) (hk : cs.kind = .function) (hp : True) (hdp : dp + 2 < recursionLimit) (hun : un + 16 < cLine)
    (hret : ∀  (h' : Heap) (tk' : Nat), Fr h₀ L h' m → News h₀ L h' news → Q (.bool (isAtm n)) { s with heap := h', toks := tk' }) :
    wpAny (model PySem.Challenge.rw_nz0333_01.row.prog w) (ktrTop dp un gd cn cs L a ccd cl outer) (call (.ref 315) [.int n t]) Q E s := by
  refine wpAny_call ?_
  k_dflt cell_enter
  k_steps
  all_goals exact ret_b hret (by first | (simp_all [isAtm]; done) | (simp_all [isAtm]; rfl)) (by k_asm) (by k_asm)

theorem reg6 : True := by
  k_with "call ref" => (k_here; (with_reducible show wpAny _ _ (call (Value.ref 315) _) _ _ _); k_dflt (refine' c_is_atom_code ?k1 ?k2 ?k3 ?k4 ?k5 ?kK ?kp ?kd ?ku ?_; (case k1 => k_asm); (case k2 => k_asm); (case k3 => k_asm); (case k4 => k_asm); (case k5 => k_asm); (case kK => first | exact rfl | assumption); (case kp => trivial); (case kd => ktr_room); (case ku => ktr_units); k_whole); intro _ _ _ _; (try dsimp only); (try k_fold))
  trivial
theorem c_is_value_code {w : World} {mean : ExcName → Option Value} {mg mb : PySem.Str → Option Value} {dp un : Nat} {gd : Option (List Code)} {cn : PySem.Str} {cs : Scope} {a : Addr} {ccd : Value} {cl : List (PySem.Str × Addr)} {outer : List Env} {A₀ : Around} {base h₀ : Heap} {L : Addr} {m : PySem.Str → Option Value} {s : Shared} {Q E : Value → Shared → Prop} {news : List (Addr × Obj)} {n : Int} {t : Tok}
    (B : Below A₀ base outer h₀) (F : Fr h₀ L s.heap m) (X : (hd.heap_1 w.params).In h₀) (N : News h₀ L s.heap news) (T : Top topProg Lz mean mg mb h₀) (hk : cs.kind = .function) (hp : True) (hdp : dp + 2 < recursionLimit) (hun : un + 16 < cLine)
    (hret : ∀  (h' : Heap) (tk' : Nat), Fr h₀ L h' m → News h₀ L h' news → Q (.bool (isVal n)) { s with heap := h', toks := tk' }) :
    wpAny (model PySem.Challenge.rw_nz0333_01.row.prog w) (ktrTop dp un gd cn cs L a ccd cl outer) (call (.ref 336) [.int n t]) Q E s := by
  refine wpAny_call ?_
  k_dflt cell_enter
  k_steps
  all_goals exact ret_b hret (by first | (simp_all [isVal]; done) | (simp_all [isVal]; rfl)) (by k_asm) (by k_asm)

theorem reg7 : True := by
  k_with "call ref" => (k_here; (with_reducible show wpAny _ _ (call (Value.ref 336) _) _ _ _); k_dflt (refine' c_is_value_code ?k1 ?k2 ?k3 ?k4 ?k5 ?kK ?kp ?kd ?ku ?_; (case k1 => k_asm); (case k2 => k_asm); (case k3 => k_asm); (case k4 => k_asm); (case k5 => k_asm); (case kK => first | exact rfl | assumption); (case kp => trivial); (case kd => ktr_room); (case ku => ktr_units); k_whole); intro _ _ _ _; (try dsimp only); (try k_fold))
  trivial
theorem c_is_name_code {w : World} {mean : ExcName → Option Value} {mg mb : PySem.Str → Option Value} {dp un : Nat} {gd : Option (List Code)} {cn : PySem.Str} {cs : Scope} {a : Addr} {ccd : Value} {cl : List (PySem.Str × Addr)} {outer : List Env} {A₀ : Around} {base h₀ : Heap} {L : Addr} {m : PySem.Str → Option Value} {s : Shared} {Q E : Value → Shared → Prop} {news : List (Addr × Obj)} {n : Int} {t : Tok}
    (B : Below A₀ base outer h₀) (F : Fr h₀ L s.heap m) (X : (hd.heap_1 w.params).In h₀) (N : News h₀ L s.heap news) (T : Top topProg Lz mean mg mb h₀) (hk : cs.kind = .function) (hp : True) (hdp : dp + 2 < recursionLimit) (hun : un + 16 < cLine)
    (hret : ∀  (h' : Heap) (tk' : Nat), Fr h₀ L h' m → News h₀ L h' news → Q (.bool (isNam n)) { s with heap := h', toks := tk' }) :
    wpAny (model PySem.Challenge.rw_nz0333_01.row.prog w) (ktrTop dp un gd cn cs L a ccd cl outer) (call (.ref 674) [.int n t]) Q E s := by
  refine wpAny_call ?_
  k_dflt cell_enter
  k_steps
  all_goals exact ret_b hret (by first | (simp_all [isNam]; done) | (simp_all [isNam]; rfl)) (by k_asm) (by k_asm)

theorem reg8 : True := by
  k_with "call ref" => (k_here; (with_reducible show wpAny _ _ (call (Value.ref 674) _) _ _ _); k_dflt (refine' c_is_name_code ?k1 ?k2 ?k3 ?k4 ?k5 ?kK ?kp ?kd ?ku ?_; (case k1 => k_asm); (case k2 => k_asm); (case k3 => k_asm); (case k4 => k_asm); (case k5 => k_asm); (case kK => first | exact rfl | assumption); (case kp => trivial); (case kd => ktr_room); (case ku => ktr_units); k_whole); intro _ _ _ _; (try dsimp only); (try k_fold))
  trivial
theorem c_is_astring_code {w : World} {mean : ExcName → Option Value} {mg mb : PySem.Str → Option Value} {dp un : Nat} {gd : Option (List Code)} {cn : PySem.Str} {cs : Scope} {a : Addr} {ccd : Value} {cl : List (PySem.Str × Addr)} {outer : List Env} {A₀ : Around} {base h₀ : Heap} {L : Addr} {m : PySem.Str → Option Value} {s : Shared} {Q E : Value → Shared → Prop} {news : List (Addr × Obj)} {n : Int} {t : Tok}
    (B : Below A₀ base outer h₀) (F : Fr h₀ L s.heap m) (X : (hd.heap_1 w.params).In h₀) (N : News h₀ L s.heap news) (T : Top topProg Lz mean mg mb h₀) (hk : cs.kind = .function) (hp : True) (hdp : dp + 3 < recursionLimit) (hun : un + 24 < cLine)
    (hret : ∀  (h' : Heap) (tk' : Nat), Fr h₀ L h' m → News h₀ L h' news → Q (.bool (isAst n)) { s with heap := h', toks := tk' }) :
    wpAny (model PySem.Challenge.rw_nz0333_01.row.prog w) (ktrTop dp un gd cn cs L a ccd cl outer) (call (.ref 322) [.int n t]) Q E s := by
  refine wpAny_call ?_
  k_dflt cell_enter
  k_steps
  all_goals exact ret_b hret (by first | (simp_all [isAst]; done) | (simp_all [isAst]; rfl)) (by k_asm) (by k_asm)

theorem reg9 : True := by
  k_with "call ref" => (k_here; (with_reducible show wpAny _ _ (call (Value.ref 322) _) _ _ _); k_dflt (refine' c_is_astring_code ?k1 ?k2 ?k3 ?k4 ?k5 ?kK ?kp ?kd ?ku ?_; (case k1 => k_asm); (case k2 => k_asm); (case k3 => k_asm); (case k4 => k_asm); (case k5 => k_asm); (case kK => first | exact rfl | assumption); (case kp => trivial); (case kd => ktr_room); (case ku => ktr_units); k_whole); intro _ _ _ _; (try dsimp only); (try k_fold))
  trivial
theorem c_is_tag_code {w : World} {mean : ExcName → Option Value} {mg mb : PySem.Str → Option Value} {dp un : Nat} {gd : Option (List Code)} {cn : PySem.Str} {cs : Scope} {a : Addr} {ccd : Value} {cl : List (PySem.Str × Addr)} {outer : List Env} {A₀ : Around} {base h₀ : Heap} {L : Addr} {m : PySem.Str → Option Value} {s : Shared} {Q E : Value → Shared → Prop} {news : List (Addr × Obj)} {n : Int} {t : Tok}
    (B : Below A₀ base outer h₀) (F : Fr h₀ L s.heap m) (X : (hd.heap_1 w.params).In h₀) (N : News h₀ L s.heap news) (T : Top topProg Lz mean mg mb h₀) (hk : cs.kind = .function) (hp : True) (hdp : dp + 4 < recursionLimit) (hun : un + 32 < cLine)
    (hret : ∀  (h' : Heap) (tk' : Nat), Fr h₀ L h' m → News h₀ L h' news → Q (.bool (isTag n)) { s with heap := h', toks := tk' }) :
    wpAny (model PySem.Challenge.rw_nz0333_01.row.prog w) (ktrTop dp un gd cn cs L a ccd cl outer) (call (.ref 329) [.int n t]) Q E s := by
  refine wpAny_call ?_
  k_dflt cell_enter
  k_steps
  all_goals exact ret_b hret (by first | (simp_all [isTag]; done) | (simp_all [isTag]; rfl)) (by k_asm) (by k_asm)

theorem reg10 : True := by
  k_with "call ref" => (k_here; (with_reducible show wpAny _ _ (call (Value.ref 329) _) _ _ _); k_dflt (refine' c_is_tag_code ?k1 ?k2 ?k3 ?k4 ?k5 ?kK ?kp ?kd ?ku ?_; (case k1 => k_asm); (case k2 => k_asm); (case k3 => k_asm); (case k4 => k_asm); (case k5 => k_asm); (case kK => first | exact rfl | assumption); (case kp => trivial); (case kd => ktr_room); (case ku => ktr_units); k_whole); intro _ _ _ _; (try dsimp only); (try k_fold))
  trivial
abbrev wdict (P : Params) (k1 k2 : Tok) (D : List UInt8) (t1 : Tok) (i : Int) (t2 : Tok) (n : Nat) : Obj :=
  dictOf [⟨PyData.keyHash P (Str.ofString "data"), .str (Str.ofString "data") k1, .bytes D.toArray t1⟩, ⟨PyData.keyHash P (Str.ofString "at"), .str (Str.ofString "at") k2, .int i t2⟩] n
/-- R is what the wire still has to read -/
def At (D : List UInt8) (i : Int) (R : List UInt8) : Prop := 0 ≤ i ∧ i ≤ (D.length : Int) ∧ D.drop i.toNat = R ∧ D.length ≤ 1048576
/-- what peek gives -/
def peekR : List UInt8 → Int
  | [] => -1
  | c :: _ => (c.toNat : Int)
theorem At.len {D R : List UInt8} {i : Int} (h : At D i R) : (R.length : Int) = D.length - i := by
  obtain ⟨h0, h1, h2, _⟩ := h
  rw [← h2, List.length_drop]; omega
theorem At.peek {D R : List UInt8} {i : Int} (h : At D i R) (hi : i < (D.length : Int)) : ((D.getD i.toNat 0).toNat : Int) = peekR R := by
  obtain ⟨h0, h1, h2, _⟩ := h
  have hl : i.toNat < D.length := by omega
  rw [← h2, List.drop_eq_getElem_cons hl, List.getD_eq_getElem?_getD, List.getElem?_eq_getElem hl]
  rfl
theorem At.nil {D R : List UInt8} {i : Int} (h : At D i R) (hi : ¬ i < (D.length : Int)) : -1 = peekR R := by
  obtain ⟨h0, h1, h2, _⟩ := h
  rw [← h2, List.drop_eq_nil_of_le (by omega)]
  rfl
theorem At.step {D O R : List UInt8} {i : Int} (h : At D i (O ++ R)) : At D (i + O.length) R := by
  have hl := h.len
  obtain ⟨h0, h1, h2, h3⟩ := h
  rw [List.length_append] at hl
  refine ⟨by omega, by omega, ?_, h3⟩
  rw [show (i + (O.length : Int)).toNat = i.toNat + O.length from by omega, ← List.drop_drop, h2, List.drop_left]
theorem At.cut {D O R : List UInt8} {i : Int} (h : At D i (O ++ R)) : List.take (i + (O.toArray.size : Int) - i).toNat (List.drop i.toNat D) = O := by
  rw [h.2.2.1, show (i + (O.toArray.size : Int) - i).toNat = O.length from by rw [List.size_toArray]; omega, List.take_left]
theorem At.cutNo {D O R : List UInt8} {i : Int} (h : At D i (O ++ R)) (q : ((List.take (i + (O.toArray.size : Int) - i).toNat (List.drop i.toNat D)).toArray.toList != O.toArray.toList) = true) : False := by
  rw [h.cut] at q; simp at q
theorem At.off {D O R : List UInt8} {i : Int} (h : At D i R) (n : R.take O.length ≠ O) (q : ((List.take (i + (O.toArray.size : Int) - i).toNat (List.drop i.toNat D)).toArray.toList != O.toArray.toList) = false) : False := by
  rw [h.2.2.1, show (i + (O.toArray.size : Int) - i).toNat = O.length from by rw [List.size_toArray]; omega] at q
  simp at q; exact n q
theorem clip_pos {n : Nat} {k : Int} (h : 0 ≤ k) : clipAt n k = min k.toNat n := by
  obtain ⟨j, rfl⟩ := Int.eq_ofNat_of_zero_le h
  exact clipAt_nat n j
theorem cut_list (D : List UInt8) {lo hi : Int} (h0 : 0 ≤ lo) (h1 : lo ≤ hi) : (D.drop (clipAt D.length lo)).take (clipAt D.length hi - clipAt D.length lo) = (D.drop lo.toNat).take (hi - lo).toNat := by
  rw [clip_pos h0, clip_pos (Int.le_trans h0 h1)]
  by_cases hl : lo.toNat ≤ D.length
  · rw [Nat.min_eq_left hl]
    by_cases hh : hi.toNat ≤ D.length
    · rw [Nat.min_eq_left hh]; congr 1; omega
    · rw [Nat.min_eq_right (by omega), List.take_of_length_le (by rw [List.length_drop]; omega), List.take_of_length_le (by rw [List.length_drop]; omega)]
  · rw [List.drop_eq_nil_of_le (show D.length ≤ min lo.toNat D.length by omega), List.drop_eq_nil_of_le (show D.length ≤ lo.toNat by omega), List.take_nil, List.take_nil]
section
variable {prog : Program} {w : World} {A : Around} {E : Value → Shared → Prop} {s : Shared} {value slice : PySem.Expr} {D : List UInt8} {t tl tu : Tok} {h₀ : Heap} {L : Addr} {m : PySem.Str → Option Value} {news : List (Addr × Obj)} {lo hi : Int} {Q : Value → Shared → Prop}
theorem slice_L (hF : Fr h₀ L s.heap m) (hN : News h₀ L s.heap news) (h0 : 0 ≤ lo) (h1 : lo ≤ hi) (hz : D.length ≤ 1048576)
    (h : ∀ h' t' k, Fr h₀ L h' m → News h₀ L h' news → Q (.bytes ((D.drop lo.toNat).take (hi - lo).toNat).toArray t') { s with heap := h', toks := k })
    (hs : subscripted slice false (.bytes D.toArray t) (.ref s.heap.objs.size) = operate [.ref s.heap.objs.size, .bytes D.toArray t] (getItem (.bytes D.toArray t) (.ref s.heap.objs.size)) := by with_unfolding_all rfl)
    (ht : ∀ r, letTemporaryGo value (.bytes D.toArray t) r = pure () := by intro _; with_unfolding_all rfl) :
    wpAny (model prog w) A (subscriptTail value slice (.bytes D.toArray t) (.ref s.heap.objs.size)) Q E { s with heap := s.heap.push { cls := .type "slice", data := .fields #[.int lo tl, .int hi tu, .none] } } := by
  have e : KBy.picked D.toArray (some lo) (some hi) = ((D.drop lo.toNat).take (hi - lo).toNat).toArray := by
    rw [KBc.picked_eq]
    simp only [Option.elim, List.size_toArray]
    rw [cut_list D h0 h1]
  refine tail_of_ItemOn ⟨"bytes", _, FB.slot_bytes_getitem.lookup, typeIs_bytes _ _ _, getItem_meets (typeIs_bytes _ _ _) (by decide) FB.slot_bytes_getitem FB.entry_bytes_getitem (FB.args_bytes_getitem_2 _ _) (KBc.meets_slice2 D.toArray t _ (lo := some lo) (hi := some hi) (l := .int lo tl) (u := .int hi tu) (by constructor) (by constructor))
    ⟨Heap.IsSliceOf.new _ _ _ _, Nat.le_trans (KBc.size_picked_le _ _ _) (by rw [sizeLine_eq, List.size_toArray]; omega), fun t' k => ?_⟩⟩ hs ht
  rw [e]
  exact h _ _ _ (hF.push _) (News.pushKeep hN _)
end
theorem ret_i {h₀ h' : Heap} {L : Addr} {m : PySem.Str → Option Value} {s : Shared} {Q : Value → Shared → Prop} {news : List (Addr × Obj)} {x y : Int} {t : Tok} {tk' : Nat}
    (hret : ∀ (t : Tok) (h' : Heap) (tk' : Nat), Fr h₀ L h' m → News h₀ L h' news → Q (.int x t) { s with heap := h', toks := tk' }) (e : y = x) (F : Fr h₀ L h' m) (N : News h₀ L h' news) : Q (.int y t) { s with heap := h', toks := tk' } := by
  subst e; exact hret _ _ _ F N

theorem c_peek {w : World} {mean : ExcName → Option Value} {mg mb : PySem.Str → Option Value} {dp un : Nat} {gd : Option (List Code)} {cn : PySem.Str} {cs : Scope} {a : Addr} {ccd : Value} {cl : List (PySem.Str × Addr)} {outer : List Env} {A₀ : Around} {base h₀ : Heap} {L : Addr} {m : PySem.Str → Option Value} {s : Shared} {Q E : Value → Shared → Prop} {x dx : Addr} {k1 k2 t1 t2 : Tok} {D R : List UInt8} {i : Int} {rest : List (Addr × Obj)} 
    (B : Below A₀ base outer h₀) (F : Fr h₀ L s.heap m) (X : (hd.heap_1 w.params).In h₀) (N : News h₀ L s.heap ((x, instObj 549 dx) :: (dx, wdict w.params k1 k2 D t1 (i) t2 2) :: rest)) (T : Top topProg Lz mean mg mb h₀) (hk : cs.kind = .function) (hp : At D i R) (hdp : dp + 1 < recursionLimit) (hun : un + 8 < cLine)
    (hret : ∀ (t : Tok) (h' : Heap) (tk' : Nat), Fr h₀ L h' m → News h₀ L h' ((x, instObj 549 dx) :: (dx, wdict w.params k1 k2 D t1 (i) t2 2) :: rest) → Q (.int (peekR R) t) { s with heap := h', toks := tk' }) :
    wpAny (model PySem.Challenge.rw_nz0333_01.row.prog w) (ktrTop dp un gd cn cs L a ccd cl outer) (call (.ref 393) [.ref x]) Q E s := by
  obtain ⟨hp0, _, _, hp1⟩ := id hp
  refine wpAny_call ?_
  k_dflt cell_enter
  k_steps
  · exact ret_i hret (hp.peek (by simpa using ‹i < (_ : Int)›)) (by k_asm) (by k_asm)
  · exact ret_i hret (hp.nil (by simpa using ‹¬ i < (_ : Int)›)) (by k_asm) (by k_asm)

theorem reg11 : True := by
  k_with "call ref" => (k_here; (with_reducible show wpAny _ _ (call (Value.ref 393) _) _ _ _); k_dflt (refine' c_peek ?k1 ?k2 ?k3 ?k4 ?k5 ?kK ?kp ?kd ?ku ?_; (case k1 => k_asm); (case k2 => k_asm); (case k3 => k_asm); (case k4 => k_asm); (case k5 => k_asm); (case kK => first | exact rfl | assumption); (case kp => assumption); (case kd => ktr_room); (case ku => ktr_units); k_whole); intro _ _ _ _ _; (try dsimp only); (try k_fold))
  trivial
local macro_rules | `(tactic| k_all) => `(tactic| assumption)
theorem reg12 : True := by
  k_with "subscriptTail" => (k_here; (with_reducible show wpAny _ _ (subscriptTail _ (Expr.Slice _ _ none _) (Value.bytes (List.toArray _) _) (Value.ref _)) _ _ _); (with_reducible rename Fr _ _ _ _ => F'); (with_reducible rename News _ _ _ _ => N'); (refine slice_L (s := ⟨_, _, _, _, _⟩) F' N' (by omega) (by omega) (by omega) ?_); intro _ _ _ _ _)
  trivial
theorem c_skip_y {w : World} {mean : ExcName → Option Value} {mg mb : PySem.Str → Option Value} {dp un : Nat} {gd : Option (List Code)} {cn : PySem.Str} {cs : Scope} {a : Addr} {ccd : Value} {cl : List (PySem.Str × Addr)} {outer : List Env} {A₀ : Around} {base h₀ : Heap} {L : Addr} {m : PySem.Str → Option Value} {s : Shared} {Q E : Value → Shared → Prop} {x dx : Addr} {k1 k2 t1 t2 : Tok} {D R : List UInt8} {i : Int} {rest : List (Addr × Obj)} {O : List UInt8} {t3 : Tok}
    (B : Below A₀ base outer h₀) (F : Fr h₀ L s.heap m) (X : (hd.heap_1 w.params).In h₀) (N : News h₀ L s.heap ((x, instObj 549 dx) :: (dx, wdict w.params k1 k2 D t1 (i) t2 2) :: rest)) (T : Top topProg Lz mean mg mb h₀) (hk : cs.kind = .function) (hp : At D i (O ++ R) ∧ @LT.lt Nat instLTNat dx x ∧ ∀ p ∈ rest, p.1 ≠ dx) (hdp : dp + 1 < recursionLimit) (hun : un + 8 < cLine)
    (hret : ∀ (t2' : Tok) (h' : Heap) (tk' : Nat), Fr h₀ L h' m → News h₀ L h' ((x, instObj 549 dx) :: (dx, wdict w.params k1 k2 D t1 (i + O.length) t2' 2) :: rest) → Q (.bool true) { s with heap := h', toks := tk' }) :
    wpAny (model PySem.Challenge.rw_nz0333_01.row.prog w) (ktrTop dp un gd cn cs L a ccd cl outer) (call (.ref 400) [.ref x, .bytes O.toArray t3]) Q E s := by
  obtain ⟨hp, hne, hnr⟩ := hp
  obtain ⟨hp0, hp1, _, hp2⟩ := id hp
  have hO : O.length ≤ 1048576 := by have := hp.len; rw [List.length_append] at this; omega
  refine wpAny_call ?_
  k_dflt cell_enter
  k_steps
  · exact (hp.cutNo (by assumption)).elim
  · exact hret _ _ _ (by k_asm) (by k_asm)

theorem c_skip_n {w : World} {mean : ExcName → Option Value} {mg mb : PySem.Str → Option Value} {dp un : Nat} {gd : Option (List Code)} {cn : PySem.Str} {cs : Scope} {a : Addr} {ccd : Value} {cl : List (PySem.Str × Addr)} {outer : List Env} {A₀ : Around} {base h₀ : Heap} {L : Addr} {m : PySem.Str → Option Value} {s : Shared} {Q E : Value → Shared → Prop} {x dx : Addr} {k1 k2 t1 t2 : Tok} {D R : List UInt8} {i : Int} {rest : List (Addr × Obj)} {O : List UInt8} {t3 : Tok}
    (B : Below A₀ base outer h₀) (F : Fr h₀ L s.heap m) (X : (hd.heap_1 w.params).In h₀) (N : News h₀ L s.heap ((x, instObj 549 dx) :: (dx, wdict w.params k1 k2 D t1 (i) t2 2) :: rest)) (T : Top topProg Lz mean mg mb h₀) (hk : cs.kind = .function) (hp : (At D i R ∧ R.take O.length ≠ O ∧ O.length ≤ 64) ∧ @LT.lt Nat instLTNat dx x ∧ ∀ p ∈ rest, p.1 ≠ dx) (hdp : dp + 1 < recursionLimit) (hun : un + 8 < cLine)
    (hret : ∀  (h' : Heap) (tk' : Nat), Fr h₀ L h' m → News h₀ L h' ((x, instObj 549 dx) :: (dx, wdict w.params k1 k2 D t1 (i) t2 2) :: rest) → Q (.bool false) { s with heap := h', toks := tk' }) :
    wpAny (model PySem.Challenge.rw_nz0333_01.row.prog w) (ktrTop dp un gd cn cs L a ccd cl outer) (call (.ref 400) [.ref x, .bytes O.toArray t3]) Q E s := by
  obtain ⟨⟨hp, hn, hO⟩, hne, hnr⟩ := hp
  obtain ⟨hp0, hp1, _, hp2⟩ := id hp
  refine wpAny_call ?_
  k_dflt cell_enter
  k_steps
  · exact hret _ _ (by k_asm) (by k_asm)
  · exact (hp.off hn (by assumption)).elim

theorem reg13 : True := by
  k_with "call ref" => (k_here; (with_reducible show wpAny _ _ (call (Value.ref 400) _) _ _ _); k_dflt (refine' c_skip_n ?k1 ?k2 ?k3 ?k4 ?k5 ?kK ?kp ?kd ?ku ?_; (case k1 => k_asm); (case k2 => k_asm); (case k3 => k_asm); (case k4 => k_asm); (case k5 => k_asm); (case kK => first | exact rfl | assumption); (case kp => exact ⟨⟨by assumption, by first | assumption | (intro q9; simp at q9; done) | (intro q9; simp_all; done), by first | omega | decide⟩, by omega, by assumption⟩); (case kd => ktr_room); (case ku => ktr_units); k_whole); intro _ _ _ _; (try dsimp only); (try k_fold))
  trivial
theorem reg14 : True := by
  k_with "call ref" => (k_here; (with_reducible show wpAny _ _ (call (Value.ref 400) _) _ _ _); k_dflt (refine' c_skip_y ?k1 ?k2 ?k3 ?k4 ?k5 ?kK ?kp ?kd ?ku ?_; (case k1 => k_asm); (case k2 => k_asm); (case k3 => k_asm); (case k4 => k_asm); (case k5 => k_asm); (case kK => first | exact rfl | assumption); (case kp => exact ⟨by assumption, by omega, by assumption⟩); (case kd => ktr_room); (case ku => ktr_units); k_whole); intro _ _ _ _ _; (try dsimp only); (try k_fold))
  trivial
theorem c_need {w : World} {mean : ExcName → Option Value} {mg mb : PySem.Str → Option Value} {dp un : Nat} {gd : Option (List Code)} {cn : PySem.Str} {cs : Scope} {a : Addr} {ccd : Value} {cl : List (PySem.Str × Addr)} {outer : List Env} {A₀ : Around} {base h₀ : Heap} {L : Addr} {m : PySem.Str → Option Value} {s : Shared} {Q E : Value → Shared → Prop} {x dx : Addr} {k1 k2 t1 t2 : Tok} {D R : List UInt8} {i : Int} {rest : List (Addr × Obj)} {O : List UInt8} {t3 t4 : Tok} {wh : PySem.Str}
    (B : Below A₀ base outer h₀) (F : Fr h₀ L s.heap m) (X : (hd.heap_1 w.params).In h₀) (N : News h₀ L s.heap ((x, instObj 549 dx) :: (dx, wdict w.params k1 k2 D t1 (i) t2 2) :: rest)) (T : Top topProg Lz mean mg mb h₀) (hk : cs.kind = .function) (hp : At D i (O ++ R) ∧ @LT.lt Nat instLTNat dx x ∧ ∀ p ∈ rest, p.1 ≠ dx) (hdp : dp + 2 < recursionLimit) (hun : un + 16 < cLine)
    (hret : ∀ (t2' : Tok) (h' : Heap) (tk' : Nat), Fr h₀ L h' m → News h₀ L h' ((x, instObj 549 dx) :: (dx, wdict w.params k1 k2 D t1 (i + O.length) t2' 2) :: rest) → Q (.none) { s with heap := h', toks := tk' }) :
    wpAny (model PySem.Challenge.rw_nz0333_01.row.prog w) (ktrTop dp un gd cn cs L a ccd cl outer) (call (.ref 407) [.ref x, .bytes O.toArray t3, .str wh t4]) Q E s := by
  obtain ⟨hp, hne, hnr⟩ := hp
  refine wpAny_call ?_
  k_dflt cell_enter
  k_steps
  all_goals exact hret _ _ _ (by k_asm) (by k_asm)

theorem reg15 : True := by
  k_with "call ref" => (k_here; (with_reducible show wpAny _ _ (call (Value.ref 407) _) _ _ _); k_dflt (refine' c_need ?k1 ?k2 ?k3 ?k4 ?k5 ?kK ?kp ?kd ?ku ?_; (case k1 => k_asm); (case k2 => k_asm); (case k3 => k_asm); (case k4 => k_asm); (case k5 => k_asm); (case kK => first | exact rfl | assumption); (case kp => exact ⟨by assumption, by omega, by assumption⟩); (case kd => ktr_room); (case ku => ktr_units); k_whole); intro _ _ _ _ _; (try dsimp only); (try k_fold))
  trivial
theorem c_space {w : World} {mean : ExcName → Option Value} {mg mb : PySem.Str → Option Value} {dp un : Nat} {gd : Option (List Code)} {cn : PySem.Str} {cs : Scope} {a : Addr} {ccd : Value} {cl : List (PySem.Str × Addr)} {outer : List Env} {A₀ : Around} {base h₀ : Heap} {L : Addr} {m : PySem.Str → Option Value} {s : Shared} {Q E : Value → Shared → Prop} {x dx : Addr} {k1 k2 t1 t2 : Tok} {D R : List UInt8} {i : Int} {rest : List (Addr × Obj)} 
    (B : Below A₀ base outer h₀) (F : Fr h₀ L s.heap m) (X : (hd.heap_1 w.params).In h₀) (N : News h₀ L s.heap ((x, instObj 549 dx) :: (dx, wdict w.params k1 k2 D t1 (i) t2 2) :: rest)) (T : Top topProg Lz mean mg mb h₀) (hk : cs.kind = .function) (hp : At D i (32 :: R) ∧ @LT.lt Nat instLTNat dx x ∧ ∀ p ∈ rest, p.1 ≠ dx) (hdp : dp + 3 < recursionLimit) (hun : un + 24 < cLine)
    (hret : ∀ (t2' : Tok) (h' : Heap) (tk' : Nat), Fr h₀ L h' m → News h₀ L h' ((x, instObj 549 dx) :: (dx, wdict w.params k1 k2 D t1 (i + 1) t2' 2) :: rest) → Q (.none) { s with heap := h', toks := tk' }) :
    wpAny (model PySem.Challenge.rw_nz0333_01.row.prog w) (ktrTop dp un gd cn cs L a ccd cl outer) (call (.ref 414) [.ref x]) Q E s := by
  obtain ⟨hp, hne, hnr⟩ := hp
  refine wpAny_call ?_
  k_dflt cell_enter
  k_steps
  all_goals exact hret _ _ _ (by k_asm) (by k_asm)

theorem reg16 : True := by
  k_with "call ref" => (k_here; (with_reducible show wpAny _ _ (call (Value.ref 414) _) _ _ _); k_dflt (refine' c_space ?k1 ?k2 ?k3 ?k4 ?k5 ?kK ?kp ?kd ?ku ?_; (case k1 => k_asm); (case k2 => k_asm); (case k3 => k_asm); (case k4 => k_asm); (case k5 => k_asm); (case kK => first | exact rfl | assumption); (case kp => exact ⟨by assumption, by omega, by assumption⟩); (case kd => ktr_room); (case ku => ktr_units); k_whole); intro _ _ _ _ _; (try dsimp only); (try k_fold))
  trivial
theorem c_done {w : World} {mean : ExcName → Option Value} {mg mb : PySem.Str → Option Value} {dp un : Nat} {gd : Option (List Code)} {cn : PySem.Str} {cs : Scope} {a : Addr} {ccd : Value} {cl : List (PySem.Str × Addr)} {outer : List Env} {A₀ : Around} {base h₀ : Heap} {L : Addr} {m : PySem.Str → Option Value} {s : Shared} {Q E : Value → Shared → Prop} {x dx : Addr} {k1 k2 t1 t2 : Tok} {D R : List UInt8} {i : Int} {rest : List (Addr × Obj)} 
    (B : Below A₀ base outer h₀) (F : Fr h₀ L s.heap m) (X : (hd.heap_1 w.params).In h₀) (N : News h₀ L s.heap ((x, instObj 549 dx) :: (dx, wdict w.params k1 k2 D t1 (i) t2 2) :: rest)) (T : Top topProg Lz mean mg mb h₀) (hk : cs.kind = .function) (hp : At D i [] ∧ @LT.lt Nat instLTNat dx x ∧ ∀ p ∈ rest, p.1 ≠ dx) (hdp : dp + 2 < recursionLimit) (hun : un + 16 < cLine)
    (hret : ∀  (h' : Heap) (tk' : Nat), Fr h₀ L h' m → News h₀ L h' ((x, instObj 549 dx) :: (dx, wdict w.params k1 k2 D t1 (i) t2 2) :: rest) → Q (.none) { s with heap := h', toks := tk' }) :
    wpAny (model PySem.Challenge.rw_nz0333_01.row.prog w) (ktrTop dp un gd cn cs L a ccd cl outer) (call (.ref 421) [.ref x]) Q E s := by
  obtain ⟨hp, hne, hnr⟩ := hp
  obtain ⟨hp0, hp1, _, hp2⟩ := id hp
  have hl : (D.toArray.size : Int) = i := by have := hp.len; rw [List.size_toArray]; simp at this; omega
  refine wpAny_call ?_
  k_dflt cell_enter
  k_steps
  · exact absurd hl.symm (by assumption)
  · exact hret _ _ (by k_asm) (by k_asm)

theorem reg17 : True := by
  k_with "call ref" => (k_here; (with_reducible show wpAny _ _ (call (Value.ref 421) _) _ _ _); k_dflt (refine' c_done ?k1 ?k2 ?k3 ?k4 ?k5 ?kK ?kp ?kd ?ku ?_; (case k1 => k_asm); (case k2 => k_asm); (case k3 => k_asm); (case k4 => k_asm); (case k5 => k_asm); (case kK => first | exact rfl | assumption); (case kp => exact ⟨by assumption, by omega, by assumption⟩); (case kd => ktr_room); (case ku => ktr_units); k_whole); intro _ _ _ _; (try dsimp only); (try k_fold))
  trivial
/-- the loop of run: what holds between the turns -/
def RunJ (P : Params) (x dx : Addr) (k1 k2 t1 : Tok) (D O R : List UInt8) (i : Int) (rest : List (Addr × Obj)) (m₀ : PySem.Str → Option Value) (n : Nat) (m₁ : PySem.Str → Option Value) (news₁ : List (Addr × Obj)) : Prop :=
  m₁ = m₀ ∧ ∃ (O₁ O₂ : List UInt8) (t' : Tok), O = O₁ ++ O₂ ∧ n = O₂.length ∧ At D (i + O₁.length) (O₂ ++ R) ∧ news₁ = (x, instObj 549 dx) :: (dx, wdict P k1 k2 D t1 (i + O₁.length) t' 2) :: rest

theorem run_turn {p : Int → Bool} {D O R : List UInt8} {j : Int} (hA : At D j (O ++ R)) (hlt : j < (D.toArray.size : Int)) (hv : p ((D.getD j.toNat 0).toNat : Int) = true) (hR : ∀ c ∈ R.head?, p (c.toNat : Int) = false) :
    ∃ c O₃, O = c :: O₃ ∧ At D (j + 1) (O₃ ++ R) := by
  rw [hA.peek hlt] at hv
  cases O with
  | nil =>
    cases R with
    | nil => have := hA.len; rw [List.size_toArray] at hlt; simp at this; omega
    | cons c R => have h := hR c rfl; rw [show peekR ([] ++ c :: R) = (c.toNat : Int) from rfl, h] at hv; cases hv
  | cons c O => exact ⟨c, O, rfl, (show At D j ([c] ++ (O ++ R)) from hA).step⟩
theorem runJ_next {P : Params} {x dx : Addr} {k1 k2 t1 t' : Tok} {D O O₁ O₃ R : List UInt8} {i : Int} {rest : List (Addr × Obj)} {m : PySem.Str → Option Value} {c : UInt8} (hA : At D (i + (O₁.length : Int) + 1) (O₃ ++ R)) (e : O = O₁ ++ c :: O₃) :
    RunJ P x dx k1 k2 t1 D O R i rest m O₃.length m ((x, instObj 549 dx) :: (dx, wdict P k1 k2 D t1 (i + (O₁.length : Int) + 1) t' 2) :: rest) := by
  have q : i + ((O₁ ++ [c]).length : Int) = i + (O₁.length : Int) + 1 := by rw [List.length_append, List.length_singleton]; omega
  exact ⟨rfl, O₁ ++ [c], O₃, t', by rw [e, List.append_assoc]; rfl, rfl, by rw [q]; exact hA, by rw [q]⟩
theorem run_stop {p : Int → Bool} {D O R : List UInt8} {j : Int} (hA : At D j (O ++ R)) (hlt : j < (D.toArray.size : Int)) (hO : ∀ c ∈ O, p (c.toNat : Int) = true) (hv : p ((D.getD j.toNat 0).toNat : Int) = false) : O = [] := by
  rw [hA.peek hlt] at hv
  cases O with
  | nil => rfl
  | cons c O => have h := hO c (.head _); rw [show peekR (c :: O ++ R) = (c.toNat : Int) from rfl, h] at hv; cases hv
theorem run_out {D O R : List UInt8} {j : Int} (hA : At D j (O ++ R)) (hlt : ¬ j < (D.toArray.size : Int)) : O = [] := by
  have := hA.len
  rw [List.size_toArray] at hlt
  rw [List.length_append] at this
  exact List.eq_nil_of_length_eq_zero (by omega)
theorem run_val {D O R : List UInt8} {i : Int} (h : At D i (O ++ R)) : (List.take (i + (O.length : Int) - i).toNat (List.drop i.toNat D)).toArray = O.toArray := by
  rw [h.2.2.1, show (i + (O.length : Int) - i).toNat = O.length from by omega, List.take_left]
theorem run_fin {h₀ h' : Heap} {L : Addr} {m : PySem.Str → Option Value} {s : Shared} {Q : Value → Shared → Prop} {P : Params} {x dx : Addr} {k1 k2 t1 t2 : Tok} {D O O₁ O₂ R : List UInt8} {i : Int} {rest : List (Addr × Obj)} {t : Tok} {tk' : Nat}
    (hret : ∀ (t t2' : Tok) (h' : Heap) (tk' : Nat), Fr h₀ L h' m → News h₀ L h' ((x, instObj 549 dx) :: (dx, wdict P k1 k2 D t1 (i + O.length) t2' 2) :: rest) → Q (.bytes O.toArray t) { s with heap := h', toks := tk' })
    (hp : At D i (O ++ R)) (e : O = O₁ ++ O₂) (e2 : O₂ = []) (F : Fr h₀ L h' m) (N : News h₀ L h' ((x, instObj 549 dx) :: (dx, wdict P k1 k2 D t1 (i + O₁.length) t2 2) :: rest)) :
    Q (.bytes (List.take (i + (O₁.length : Int) - i).toNat (List.drop i.toNat D)).toArray t) { s with heap := h', toks := tk' } := by
  subst e2
  rw [List.append_nil] at e
  subst e
  rw [run_val hp]
  exact hret t t2 _ _ F N

theorem c_run_isTx {w : World} {mean : ExcName → Option Value} {mg mb : PySem.Str → Option Value} {dp un : Nat} {gd : Option (List Code)} {cn : PySem.Str} {cs : Scope} {a : Addr} {ccd : Value} {cl : List (PySem.Str × Addr)} {outer : List Env} {A₀ : Around} {base h₀ : Heap} {L : Addr} {m : PySem.Str → Option Value} {s : Shared} {Q E : Value → Shared → Prop} {x dx : Addr} {k1 k2 t1 t2 : Tok} {D R : List UInt8} {i : Int} {rest : List (Addr × Obj)} {O : List UInt8}
    (B : Below A₀ base outer h₀) (F : Fr h₀ L s.heap m) (X : (hd.heap_1 w.params).In h₀) (N : News h₀ L s.heap ((x, instObj 549 dx) :: (dx, wdict w.params k1 k2 D t1 (i) t2 2) :: rest)) (T : Top topProg Lz mean mg mb h₀) (hk : cs.kind = .function) (hp : (At D i (O ++ R) ∧ (∀ c ∈ O, isTx (c.toNat : Int) = true) ∧ ∀ c ∈ R.head?, isTx (c.toNat : Int) = false) ∧ @LT.lt Nat instLTNat dx x ∧ ∀ p ∈ rest, p.1 ≠ dx) (hdp : dp + 6 < recursionLimit) (hun : un + 48 < cLine)
    (hret : ∀ (t t2' : Tok) (h' : Heap) (tk' : Nat), Fr h₀ L h' m → News h₀ L h' ((x, instObj 549 dx) :: (dx, wdict w.params k1 k2 D t1 (i + O.length) t2' 2) :: rest) → Q (.bytes O.toArray t) { s with heap := h', toks := tk' }) :
    wpAny (model PySem.Challenge.rw_nz0333_01.row.prog w) (ktrTop dp un gd cn cs L a ccd cl outer) (call (.ref 428) [.ref x, .ref 681]) Q E s := by
  obtain ⟨⟨hp, hO, hR⟩, hne, hnr⟩ := hp
  obtain ⟨hi0, _⟩ := id hp
  refine wpAny_call ?_
  k_dflt cell_enter
  iterate 8 (first | (k_unfold; (try dsimp only)) | walk1)
  refine' While_inv (RunJ w.params x dx k1 k2 t1 D O R i rest _) (n₀ := O.length) (by k_asm) (by k_asm) ⟨rfl, [], O, _, rfl, rfl, by simpa using hp, by simp; rfl⟩ ?_
  rintro n m₁ news₁ h₁ tk₁ F₁ N₁ ⟨rfl, O₁, O₂, t', hO12, hn, hA, rfl⟩
  obtain ⟨hp0, hp1, _, hp2⟩ := id hA
  k_steps
  · obtain ⟨c, O₃, rfl, hA'⟩ := run_turn (p := isTx) hA (by assumption) (by assumption) hR
    exact WhileStep.intro (n' := O₃.length) (by k_asm) (by k_asm) (by rw [hn, List.length_cons]; omega) (runJ_next hA' hO12)
  · exact run_fin (fun _ => hret _) hp hO12 (run_stop (p := isTx) hA (by assumption) (fun c hc => hO c (by rw [hO12]; exact List.mem_append_right _ hc)) (by assumption)) (by k_asm) (by k_asm)
  · exact run_fin (fun _ => hret _) hp hO12 (run_out hA (by assumption)) (by k_asm) (by k_asm)

theorem reg18 : True := by
  k_with "call ref" => (k_here; (with_reducible show wpAny _ _ (call (Value.ref 428) [_, Value.ref 681]) _ _ _); k_dflt (refine' c_run_isTx ?k1 ?k2 ?k3 ?k4 ?k5 ?kK ?kp ?kd ?ku ?_; (case k1 => k_asm); (case k2 => k_asm); (case k3 => k_asm); (case k4 => k_asm); (case k5 => k_asm); (case kK => first | exact rfl | assumption); (case kp => assumption); (case kd => ktr_room); (case ku => ktr_units); k_whole); intro _ _ _ _ _ _; (try dsimp only); (try k_fold))
  trivial
theorem c_run_isTag {w : World} {mean : ExcName → Option Value} {mg mb : PySem.Str → Option Value} {dp un : Nat} {gd : Option (List Code)} {cn : PySem.Str} {cs : Scope} {a : Addr} {ccd : Value} {cl : List (PySem.Str × Addr)} {outer : List Env} {A₀ : Around} {base h₀ : Heap} {L : Addr} {m : PySem.Str → Option Value} {s : Shared} {Q E : Value → Shared → Prop} {x dx : Addr} {k1 k2 t1 t2 : Tok} {D R : List UInt8} {i : Int} {rest : List (Addr × Obj)} {O : List UInt8}
    (B : Below A₀ base outer h₀) (F : Fr h₀ L s.heap m) (X : (hd.heap_1 w.params).In h₀) (N : News h₀ L s.heap ((x, instObj 549 dx) :: (dx, wdict w.params k1 k2 D t1 (i) t2 2) :: rest)) (T : Top topProg Lz mean mg mb h₀) (hk : cs.kind = .function) (hp : (At D i (O ++ R) ∧ (∀ c ∈ O, isTag (c.toNat : Int) = true) ∧ ∀ c ∈ R.head?, isTag (c.toNat : Int) = false) ∧ @LT.lt Nat instLTNat dx x ∧ ∀ p ∈ rest, p.1 ≠ dx) (hdp : dp + 6 < recursionLimit) (hun : un + 48 < cLine)
    (hret : ∀ (t t2' : Tok) (h' : Heap) (tk' : Nat), Fr h₀ L h' m → News h₀ L h' ((x, instObj 549 dx) :: (dx, wdict w.params k1 k2 D t1 (i + O.length) t2' 2) :: rest) → Q (.bytes O.toArray t) { s with heap := h', toks := tk' }) :
    wpAny (model PySem.Challenge.rw_nz0333_01.row.prog w) (ktrTop dp un gd cn cs L a ccd cl outer) (call (.ref 428) [.ref x, .ref 329]) Q E s := by
  obtain ⟨⟨hp, hO, hR⟩, hne, hnr⟩ := hp
  obtain ⟨hi0, _⟩ := id hp
  refine wpAny_call ?_
  k_dflt cell_enter
  iterate 8 (first | (k_unfold; (try dsimp only)) | walk1)
  refine' While_inv (RunJ w.params x dx k1 k2 t1 D O R i rest _) (n₀ := O.length) (by k_asm) (by k_asm) ⟨rfl, [], O, _, rfl, rfl, by simpa using hp, by simp; rfl⟩ ?_
  rintro n m₁ news₁ h₁ tk₁ F₁ N₁ ⟨rfl, O₁, O₂, t', hO12, hn, hA, rfl⟩
  obtain ⟨hp0, hp1, _, hp2⟩ := id hA
  k_steps
  · obtain ⟨c, O₃, rfl, hA'⟩ := run_turn (p := isTag) hA (by assumption) (by assumption) hR
    exact WhileStep.intro (n' := O₃.length) (by k_asm) (by k_asm) (by rw [hn, List.length_cons]; omega) (runJ_next hA' hO12)
  · exact run_fin (fun _ => hret _) hp hO12 (run_stop (p := isTag) hA (by assumption) (fun c hc => hO c (by rw [hO12]; exact List.mem_append_right _ hc)) (by assumption)) (by k_asm) (by k_asm)
  · exact run_fin (fun _ => hret _) hp hO12 (run_out hA (by assumption)) (by k_asm) (by k_asm)

theorem reg19 : True := by
  k_with "call ref" => (k_here; (with_reducible show wpAny _ _ (call (Value.ref 428) [_, Value.ref 329]) _ _ _); k_dflt (refine' c_run_isTag ?k1 ?k2 ?k3 ?k4 ?k5 ?kK ?kp ?kd ?ku ?_; (case k1 => k_asm); (case k2 => k_asm); (case k3 => k_asm); (case k4 => k_asm); (case k5 => k_asm); (case kK => first | exact rfl | assumption); (case kp => assumption); (case kd => ktr_room); (case ku => ktr_units); k_whole); intro _ _ _ _ _ _; (try dsimp only); (try k_fold))
  trivial
theorem c_run_isNam {w : World} {mean : ExcName → Option Value} {mg mb : PySem.Str → Option Value} {dp un : Nat} {gd : Option (List Code)} {cn : PySem.Str} {cs : Scope} {a : Addr} {ccd : Value} {cl : List (PySem.Str × Addr)} {outer : List Env} {A₀ : Around} {base h₀ : Heap} {L : Addr} {m : PySem.Str → Option Value} {s : Shared} {Q E : Value → Shared → Prop} {x dx : Addr} {k1 k2 t1 t2 : Tok} {D R : List UInt8} {i : Int} {rest : List (Addr × Obj)} {O : List UInt8}
    (B : Below A₀ base outer h₀) (F : Fr h₀ L s.heap m) (X : (hd.heap_1 w.params).In h₀) (N : News h₀ L s.heap ((x, instObj 549 dx) :: (dx, wdict w.params k1 k2 D t1 (i) t2 2) :: rest)) (T : Top topProg Lz mean mg mb h₀) (hk : cs.kind = .function) (hp : (At D i (O ++ R) ∧ (∀ c ∈ O, isNam (c.toNat : Int) = true) ∧ ∀ c ∈ R.head?, isNam (c.toNat : Int) = false) ∧ @LT.lt Nat instLTNat dx x ∧ ∀ p ∈ rest, p.1 ≠ dx) (hdp : dp + 6 < recursionLimit) (hun : un + 48 < cLine)
    (hret : ∀ (t t2' : Tok) (h' : Heap) (tk' : Nat), Fr h₀ L h' m → News h₀ L h' ((x, instObj 549 dx) :: (dx, wdict w.params k1 k2 D t1 (i + O.length) t2' 2) :: rest) → Q (.bytes O.toArray t) { s with heap := h', toks := tk' }) :
    wpAny (model PySem.Challenge.rw_nz0333_01.row.prog w) (ktrTop dp un gd cn cs L a ccd cl outer) (call (.ref 428) [.ref x, .ref 674]) Q E s := by
  obtain ⟨⟨hp, hO, hR⟩, hne, hnr⟩ := hp
  obtain ⟨hi0, _⟩ := id hp
  refine wpAny_call ?_
  k_dflt cell_enter
  iterate 8 (first | (k_unfold; (try dsimp only)) | walk1)
  refine' While_inv (RunJ w.params x dx k1 k2 t1 D O R i rest _) (n₀ := O.length) (by k_asm) (by k_asm) ⟨rfl, [], O, _, rfl, rfl, by simpa using hp, by simp; rfl⟩ ?_
  rintro n m₁ news₁ h₁ tk₁ F₁ N₁ ⟨rfl, O₁, O₂, t', hO12, hn, hA, rfl⟩
  obtain ⟨hp0, hp1, _, hp2⟩ := id hA
  k_steps
  · obtain ⟨c, O₃, rfl, hA'⟩ := run_turn (p := isNam) hA (by assumption) (by assumption) hR
    exact WhileStep.intro (n' := O₃.length) (by k_asm) (by k_asm) (by rw [hn, List.length_cons]; omega) (runJ_next hA' hO12)
  · exact run_fin (fun _ => hret _) hp hO12 (run_stop (p := isNam) hA (by assumption) (fun c hc => hO c (by rw [hO12]; exact List.mem_append_right _ hc)) (by assumption)) (by k_asm) (by k_asm)
  · exact run_fin (fun _ => hret _) hp hO12 (run_out hA (by assumption)) (by k_asm) (by k_asm)

theorem reg20 : True := by
  k_with "call ref" => (k_here; (with_reducible show wpAny _ _ (call (Value.ref 428) [_, Value.ref 674]) _ _ _); k_dflt (refine' c_run_isNam ?k1 ?k2 ?k3 ?k4 ?k5 ?kK ?kp ?kd ?ku ?_; (case k1 => k_asm); (case k2 => k_asm); (case k3 => k_asm); (case k4 => k_asm); (case k5 => k_asm); (case kK => first | exact rfl | assumption); (case kp => assumption); (case kd => ktr_room); (case ku => ktr_units); k_whole); intro _ _ _ _ _ _; (try dsimp only); (try k_fold))
  trivial
theorem c_run_isVal {w : World} {mean : ExcName → Option Value} {mg mb : PySem.Str → Option Value} {dp un : Nat} {gd : Option (List Code)} {cn : PySem.Str} {cs : Scope} {a : Addr} {ccd : Value} {cl : List (PySem.Str × Addr)} {outer : List Env} {A₀ : Around} {base h₀ : Heap} {L : Addr} {m : PySem.Str → Option Value} {s : Shared} {Q E : Value → Shared → Prop} {x dx : Addr} {k1 k2 t1 t2 : Tok} {D R : List UInt8} {i : Int} {rest : List (Addr × Obj)} {O : List UInt8}
    (B : Below A₀ base outer h₀) (F : Fr h₀ L s.heap m) (X : (hd.heap_1 w.params).In h₀) (N : News h₀ L s.heap ((x, instObj 549 dx) :: (dx, wdict w.params k1 k2 D t1 (i) t2 2) :: rest)) (T : Top topProg Lz mean mg mb h₀) (hk : cs.kind = .function) (hp : (At D i (O ++ R) ∧ (∀ c ∈ O, isVal (c.toNat : Int) = true) ∧ ∀ c ∈ R.head?, isVal (c.toNat : Int) = false) ∧ @LT.lt Nat instLTNat dx x ∧ ∀ p ∈ rest, p.1 ≠ dx) (hdp : dp + 6 < recursionLimit) (hun : un + 48 < cLine)
    (hret : ∀ (t t2' : Tok) (h' : Heap) (tk' : Nat), Fr h₀ L h' m → News h₀ L h' ((x, instObj 549 dx) :: (dx, wdict w.params k1 k2 D t1 (i + O.length) t2' 2) :: rest) → Q (.bytes O.toArray t) { s with heap := h', toks := tk' }) :
    wpAny (model PySem.Challenge.rw_nz0333_01.row.prog w) (ktrTop dp un gd cn cs L a ccd cl outer) (call (.ref 428) [.ref x, .ref 336]) Q E s := by
  obtain ⟨⟨hp, hO, hR⟩, hne, hnr⟩ := hp
  obtain ⟨hi0, _⟩ := id hp
  refine wpAny_call ?_
  k_dflt cell_enter
  iterate 8 (first | (k_unfold; (try dsimp only)) | walk1)
  refine' While_inv (RunJ w.params x dx k1 k2 t1 D O R i rest _) (n₀ := O.length) (by k_asm) (by k_asm) ⟨rfl, [], O, _, rfl, rfl, by simpa using hp, by simp; rfl⟩ ?_
  rintro n m₁ news₁ h₁ tk₁ F₁ N₁ ⟨rfl, O₁, O₂, t', hO12, hn, hA, rfl⟩
  obtain ⟨hp0, hp1, _, hp2⟩ := id hA
  k_steps
  · obtain ⟨c, O₃, rfl, hA'⟩ := run_turn (p := isVal) hA (by assumption) (by assumption) hR
    exact WhileStep.intro (n' := O₃.length) (by k_asm) (by k_asm) (by rw [hn, List.length_cons]; omega) (runJ_next hA' hO12)
  · exact run_fin (fun _ => hret _) hp hO12 (run_stop (p := isVal) hA (by assumption) (fun c hc => hO c (by rw [hO12]; exact List.mem_append_right _ hc)) (by assumption)) (by k_asm) (by k_asm)
  · exact run_fin (fun _ => hret _) hp hO12 (run_out hA (by assumption)) (by k_asm) (by k_asm)

theorem reg21 : True := by
  k_with "call ref" => (k_here; (with_reducible show wpAny _ _ (call (Value.ref 428) [_, Value.ref 336]) _ _ _); k_dflt (refine' c_run_isVal ?k1 ?k2 ?k3 ?k4 ?k5 ?kK ?kp ?kd ?ku ?_; (case k1 => k_asm); (case k2 => k_asm); (case k3 => k_asm); (case k4 => k_asm); (case k5 => k_asm); (case kK => first | exact rfl | assumption); (case kp => assumption); (case kd => ktr_room); (case ku => ktr_units); k_whole); intro _ _ _ _ _ _; (try dsimp only); (try k_fold))
  trivial
/-- pyIter of the value makes one new iterator, which gives n items -/
def SrcOk (prog : Program) (w : World) (A : Around) (s : Shared) (xv : Value) (n : Nat) (P : Nat → Value → Prop) : Prop :=
  ∀ (Q : Value → Shared → Prop) (E : Value → Shared → Prop), (∀ (o : Obj) (St : Nat → Heap → Prop), Walks prog w A s.heap.objs.size [s.heap.objs.size] [s.heap.objs.size] n P St → (∀ i h, St i h → ∃ o, h.get? s.heap.objs.size = some o) →
    (∀ i h h' o', St i h → h.get? s.heap.objs.size = some o' → h'.get? s.heap.objs.size = some o' → St i h') → St 0 (s.heap.push o) → Q (.ref s.heap.objs.size) { s with heap := s.heap.push o }) → wpAny (model prog w) A (pyIter xv) Q E s
theorem src_bytes {prog : Program} {w : World} {A : Around} {s : Shared} (hh : A.handled = none) (b : Array UInt8) (t : Tok) : SrcOk prog w A s (.bytes b t) b.size (fun i v => ∃ c u, b[i]? = some c ∧ v = .int (c.toNat : Int) u) := by
  intro Q E h
  refine KBw.pyIter_bytes (h _ _ (KBw.walks hh _ b t) (fun i h st => ?_) (fun i h h' o' st e e' => ?_) ⟨_, Heap.get?_push_size _ rfl, rfl, rfl⟩)
  · obtain ⟨o, e, _⟩ := st; exact ⟨o, e⟩
  · obtain ⟨o, q, r⟩ := st; rw [e] at q; cases q; exact ⟨o', e', r⟩
theorem src_str {prog : Program} {w : World} {A : Around} {s : Shared} (hh : A.handled = none) (x : PySem.Str) (t : Tok) : SrcOk prog w A s (.str x t) x.cps.size (SignAt x) := by
  intro Q E h
  cases ha : x.cps.all (· < 128)
  · refine wpAny_pyIter_wide ha (h _ _ (Walks.strWide hh _ x t) (fun i h st => ?_) (fun i h h' o' st e e' => ?_) ⟨_, Heap.get?_push_size _ rfl, rfl, rfl⟩)
    · obtain ⟨o, e, _⟩ := st; exact ⟨o, e⟩
    · obtain ⟨o, q, r⟩ := st; rw [e] at q; cases q; exact ⟨o', e', r⟩
  · refine wpAny_pyIter_ascii ha (h _ _ (Walks.strAscii hh _ x t) (fun i h st => ?_) (fun i h h' o' st e e' => ?_) ⟨_, Heap.get?_push_size _ rfl, rfl, rfl⟩)
    · obtain ⟨o, e, _⟩ := st; exact ⟨o, e⟩
    · obtain ⟨o, q, r⟩ := st; rw [e] at q; cases q; exact ⟨o', e', r⟩
theorem src_range {prog : Program} {w : World} {A : Around} {s : Shared} {r : Addr} {n : Nat} {t u v : Tok} (hh : A.handled = none) (hr : IsRange s.heap r 0 (n : Int) 1 t u v) (hn : n ≤ 1048576) : SrcOk prog w A s (.ref r) n (fun i v => ∃ t, v = .int (i : Int) t) := by
  intro Q E h
  have hs : Builtin.Range.rangeSize 0 (n : Int) 1 = (n : Int) := by rw [rangeSize_nat]; omega
  have hsm : Builtin.Range.small 0 (n : Int) 1 = true := by
    have r : ∀ i : Int, 0 ≤ i → i ≤ 1048576 → Builtin.Range.rangeFitsLong i = true := fun i a b => by
      unfold Builtin.Range.rangeFitsLong
      rw [Bool.and_eq_true, decide_eq_true_iff, decide_eq_true_iff]
      exact ⟨by omega, by omega⟩
    have hn' : (n : Int) ≤ 1048576 := by omega
    have e3 : (n : Int) + (1 - 1) = n := by omega
    simp only [Builtin.Range.small, hs, r 0 (by decide) (by decide), r 1 (by decide) (by decide), r n (by omega) hn', e3, Bool.true_and]
    simp [r n (by omega) hn']
  refine wpAny_pyIter_range hr hsm ?_
  rw [hs]
  have W : Walks prog w A s.heap.objs.size [s.heap.objs.size] [s.heap.objs.size] n (fun i v => i < n ∧ ∃ t, v = .int (0 + i * 1) t)
      (fun i h => IsRangeIter h s.heap.objs.size (0 + (i : Nat) * 1) ((n : Int) - (i : Nat)) 1) := (Walks.range hh _ 0 1 n).bound
  refine h _ _ { sub := W.sub, frame := W.frame, done := W.done, self := W.self, item := fun i s Q E hi st hQ => W.item i s Q E hi st fun v h' tk hP => hQ v h' tk (by obtain ⟨_, t, rfl⟩ := hP; exact ⟨t, by rw [Int.mul_one, Int.zero_add]⟩) } (fun i h st => ⟨_, st⟩) (fun i h h' o' st e e' => ?_) (by show IsRangeIter _ _ _ _ _; simpa using Heap.get?_push_size _ rfl)
  have st' : h.get? s.heap.objs.size = some _ := st
  show h'.get? s.heap.objs.size = some _
  rw [e', ← e]; exact st'
/-- the source's value is at hand: what the block still asks -/
def CompS (prog : Program) (w : World) (A : Around) (h₀ : Heap) (L : Addr) (m : PySem.Str → Option Value) (env : Env) (elt : PySem.Expr) (x : PySem.Str) (scope : Scope) (cl : List (PySem.Str × Addr)) (Q : Value → Shared → Prop) (xv : Value) (s₁ : Shared) : Prop :=
  ∃ n P news, SrcOk prog w A s₁ xv n P ∧ n ≤ sizeLine ∧ Fr h₀ L s₁.heap m ∧ News h₀ L s₁.heap news ∧
    ∀ g, LCg.CompRest prog w A h₀ L m env elt x scope cl { s₁ with heap := g } (fun _ => True) P (LCg.FinE h₀ L m { s₁ with heap := g } Q) n 0 [] news
section
variable {prog : Program} {w : World} {A : Around} {E : Value → Shared → Prop} {s : Shared} {h₀ : Heap} {L : Addr} {m : PySem.Str → Option Value} {env : Env}
theorem comp_src {elt iter : PySem.Expr} {x : PySem.Str} {px : Pos} {scope : Scope} {cl : List (PySem.Str × Addr)} {pos : Pos} {Q : Value → Shared → Prop} {hp : Heap} (F₀ : Fr h₀ L hp m)
    (hclos : closureFor scope env = pure cl) (hcell : ∀ y ∈ scope.names, y.2 ≠ .cell) (hkind : scope.kind = .function)
    (hnames : ∀ y ∈ scope.names, y.2 = .local → scope.names.lookup y.1 = some .local) (hx : scope.names.lookup x = some .local)
    (h : wpAny (model prog w) A (eval iter env) (CompS prog w A h₀ L m env elt x scope cl Q) E s)
    (hs : ∀ x, foldedSetIterable iter env x = pure x := by intro _; rfl) :
    wpAny (model prog w) A (eval (.ListComp elt [⟨.Name x px, iter, [], 0⟩] scope pos) env) Q E s := by
  rw [eval_ListComp]
  refine wpAny_comprehension_free (use := none) rfl hs hclos hkind hnames (wpAny_mono h (fun xv s₁ h₁ => ?_) fun _ _ e => e)
  obtain ⟨n, P, news, S, hsz, F, N, R⟩ := h₁
  refine S _ _ fun o St W hIo hSt st0 => ?_
  have up : ∀ b o', s₁.heap.get? b = some o' → (s₁.heap.push o).get? b = some o' := fun b o' e => Heap.get?_push_of_some _ e
  refine LCg.block_U W hsz hIo (fun i h h' o nw st e e' _ _ _ => hSt i h h' o st e e') hcell hkind hx st0 (fun b hb => ?_) (F.keeps up) (N.grown up) (Nat.ne_of_lt F.ns.lt) (next_is_new F) (fun p hp => Nat.ne_of_lt (Heap.lt_size (N p hp).1)) trivial (R _) ?_
  · rw [List.mem_singleton.mp hb]
    show s₁.heap.objs.size < (s₁.heap.push _).objs.size
    rw [Heap.size_push]; exact Nat.lt_succ_self _
  · intro D C h tk m' ys news' F' N' o1 hn hC₀ hD₀ hCL hDL hCD offC fin
    refine ⟨m', hn, fun h'' hs'' => fin D h'' tk (F'.change hs'' hCL hC₀) (fun p hp => ?_) o1⟩
    refine ⟨hs''.extBut _ _ ?_ (N' p hp).1, (N' p hp).2⟩
    rcases List.mem_cons.mp hp with rfl | hp
    · exact Ne.symm hCD
    · exact offC p hp
/-- the turn of a block that leaves the ledger as it was -/
abbrev Turn1 (prog : Program) (w : World) (A : Around) (h₀ : Heap) (L : Addr) (m : PySem.Str → Option Value) (env : Env) (elt : PySem.Expr) (x : PySem.Str) (scope : Scope) (cl : List (PySem.Str × Addr)) (s : Shared) (news : List (Addr × Obj)) (v : Value) (R : Value → Prop) : Prop :=
  ∀ (ys : List Value) (I : Addr) (oI : Obj) (C : Addr) (oC : Obj) (D : Addr) (m₂ : PySem.Str → Option Value) (h : Heap) (tk : Nat) (E' : Value → Shared → Prop), LCg.NsObj oC m₂ → m₂ x = some v → Fr h₀ L h m → News h₀ L h ((I, oI) :: (C, oC) :: (D, LCg.lst ys) :: news) →
    wpAny (model prog w) A (eval elt (compEnvC scope cl C env)) (fun y s₂ => R y ∧ ∃ h' tk', s₂ = { s with heap := h', toks := tk' } ∧ Fr h₀ L h' m ∧ News h₀ L h' ((I, oI) :: (C, oC) :: (D, LCg.lst ys) :: news)) E' { s with heap := h, toks := tk }
theorem rest_same {elt : PySem.Expr} {x : PySem.Str} {scope : Scope} {cl : List (PySem.Str × Addr)} {P : Nat → Value → Prop} {Fin : List Value → List (Addr × Obj) → Prop} {news : List (Addr × Obj)} {n : Nat} {R : Nat → Value → Prop}
    (turn : ∀ i v, i < n → P i v → Turn1 prog w A h₀ L m env elt x scope cl s news v (R i))
    (fin : ∀ ys, ys.length = n → (∀ j, j < n → ∃ y, ys[j]? = some y ∧ R j y) → Fin ys news) :
    ∀ k i ys, i + k = n → ys.length = i → (∀ j, j < i → ∃ y, ys[j]? = some y ∧ R j y) → LCg.CompRest prog w A h₀ L m env elt x scope cl s (fun _ => True) P Fin k i ys news
  | 0, i, ys, hi, hl, hR => by
    obtain rfl : i = n := hi
    exact LCg.CompRest.zero (fin ys hl hR)
  | k + 1, i, ys, hi, hl, hR => by
    refine LCg.CompRest.succ fun v I oI C oC D m₂ h tk E' hP hC hx F N off ne => ?_
    refine wpAny_mono (turn i v (by omega) hP ys I oI C oC D m₂ h tk E' hC hx F N) (fun y s₂ hq => ?_) fun _ _ e => e
    obtain ⟨hRy, h', tk', rfl, F', N'⟩ := hq
    refine LCg.CompEnd.intro (s₁ := { s with heap := h, toks := tk }) F' N' news (fun p hp => hp) off trivial (rest_same turn fin k (i + 1) (ys ++ [y]) (by omega) (by rw [List.length_append, hl]; rfl) fun j hj => ?_)
    by_cases hji : j < i
    · obtain ⟨z, hz, hr⟩ := hR j hji
      exact ⟨z, by rw [List.getElem?_append_left (by omega)]; exact hz, hr⟩
    · obtain rfl : j = i := by omega
      exact ⟨y, by rw [List.getElem?_append_right (by omega), hl, Nat.sub_self]; rfl, hRy⟩
theorem compS_bytes {elt : PySem.Expr} {x : PySem.Str} {scope : Scope} {cl : List (PySem.Str × Addr)} {Q : Value → Shared → Prop} {O : List UInt8} {t : Tok} {news : List (Addr × Obj)} (R : UInt8 → Value → Prop) (hh : A.handled = none) (hsz : O.length ≤ 1048576)
    (F : Fr h₀ L s.heap m) (N : News h₀ L s.heap news) (turn : ∀ c ∈ O, ∀ u, Turn1 prog w A h₀ L m env elt x scope cl s news (.int (c.toNat : Int) u) (R c))
    (fin : ∀ ys, ys.length = O.length → (∀ (j : Nat) c, O[j]? = some c → ∃ y, ys[j]? = some y ∧ R c y) → ∀ D h tk, Fr h₀ L h m → News h₀ L h ((D, LCg.lst ys) :: news) → LCg.Off1 D news → Q (.ref D) { s with heap := h, toks := tk }) :
    CompS prog w A h₀ L m env elt x scope cl Q (.bytes O.toArray t) s := by
  refine ⟨_, _, news, src_bytes hh _ _, by rw [List.size_toArray, sizeLine_eq]; omega, F, N, fun g => ?_⟩
  refine rest_same (R := fun i y => ∀ c, O[i]? = some c → R c y) (fun i v hi hP => ?_) (fun ys hl hR D h tk F' N' o => fin ys (by rw [hl, List.size_toArray]) (fun (j : Nat) c e => ?_) D h tk F' N' o) _ 0 [] (Nat.zero_add _) rfl (fun j hj => absurd hj (Nat.not_lt_zero _))
  · obtain ⟨c, u, hc, rfl⟩ := hP
    have hc' : O[i]? = some c := by simpa using hc
    intro ys I oI C oC D m₂ h tk E' hC hx F' N'
    refine wpAny_mono (turn c (List.mem_of_getElem? hc') u ys I oI C oC D m₂ h tk E' hC hx F' N') (fun y s₂ hq => ?_) fun _ _ e => e
    obtain ⟨hr, h', tk', e, F'', N''⟩ := hq
    exact ⟨fun c' e' => by rw [hc'] at e'; cases e'; exact hr, h', tk', e, F'', N''⟩
  · obtain ⟨hj, _⟩ := List.getElem?_eq_some_iff.mp e
    obtain ⟨y, hy, hr⟩ := hR j (by rw [List.size_toArray]; exact hj)
    exact ⟨y, hy, hr c e⟩
theorem compS_str {elt : PySem.Expr} {x : PySem.Str} {scope : Scope} {cl : List (PySem.Str × Addr)} {Q : Value → Shared → Prop} {O : List Nat} {t : Tok} {news : List (Addr × Obj)} (R : Nat → Value → Prop) (hh : A.handled = none) (hsz : O.length ≤ 1048576)
    (F : Fr h₀ L s.heap m) (N : News h₀ L s.heap news) (turn : ∀ c ∈ O, ∀ u, Turn1 prog w A h₀ L m env elt x scope cl s news (.str ⟨#[c]⟩ u) (R c))
    (fin : ∀ ys, ys.length = O.length → (∀ (j : Nat) c, O[j]? = some c → ∃ y, ys[j]? = some y ∧ R c y) → ∀ D h tk, Fr h₀ L h m → News h₀ L h ((D, LCg.lst ys) :: news) → LCg.Off1 D news → Q (.ref D) { s with heap := h, toks := tk }) :
    CompS prog w A h₀ L m env elt x scope cl Q (.str ⟨O.toArray⟩ t) s := by
  refine ⟨_, _, news, src_str hh _ _, by rw [List.size_toArray, sizeLine_eq]; omega, F, N, fun g => ?_⟩
  refine rest_same (R := fun i y => ∀ c, O[i]? = some c → R c y) (fun i v hi hP => ?_) (fun ys hl hR D h tk F' N' o => fin ys (by rw [hl, List.size_toArray]) (fun (j : Nat) c e => ?_) D h tk F' N' o) _ 0 [] (Nat.zero_add _) rfl (fun j hj => absurd hj (Nat.not_lt_zero _))
  · obtain ⟨c, u, hc, rfl⟩ := hP
    have hc' : O[i]? = some c := by simpa using hc
    intro ys I oI C oC D m₂ h tk E' hC hx F' N'
    refine wpAny_mono (turn c (List.mem_of_getElem? hc') u ys I oI C oC D m₂ h tk E' hC hx F' N') (fun y s₂ hq => ?_) fun _ _ e => e
    obtain ⟨hr, h', tk', e, F'', N''⟩ := hq
    exact ⟨fun c' e' => by rw [hc'] at e'; cases e'; exact hr, h', tk', e, F'', N''⟩
  · obtain ⟨hj, _⟩ := List.getElem?_eq_some_iff.mp e
    obtain ⟨y, hy, hr⟩ := hR j (by rw [List.size_toArray]; exact hj)
    exact ⟨y, hy, hr c e⟩
end

theorem reg22 : True := by
  k_with "eval ListComp" => (k_here; k_dflt (refine' comp_src (F₀ := by k_asm) ?kA ?kB ?kC ?kD ?kE ?_; (case kA => rfl); (case kB => decide); (case kC => rfl); (case kD => decide); (case kE => rfl)))
  trivial
/-- the end of a turn of a loop that leaves all but its own name as it was -/
def ForEnd (h₀ : Heap) (L : Addr) (m₀ : PySem.Str → Option Value) (x : PySem.Str) (ledger : List (Addr × Obj)) (s₁ : Shared) (G : Prop) (Q : Flow → Shared → Prop) (f : Flow) (s₂ : Shared) : Prop :=
  match f with
  | .ret v => Q (.ret v) s₂
  | .brk => Q .next s₂
  | _ => ∃ h' tk' ov, s₂ = { s₁ with heap := h', toks := tk' } ∧ Fr h₀ L h' (fun y => if y = x then ov else m₀ y) ∧ News h₀ L h' ledger ∧ G
theorem ForEnd.intro {h₀ h' : Heap} {L : Addr} {m₀ : PySem.Str → Option Value} {x : PySem.Str} {ledger : List (Addr × Obj)} {s₁ : Shared} {G : Prop} {Q : Flow → Shared → Prop} {tk' : Nat} {ov : Option Value}
    (F : Fr h₀ L h' (fun y => if y = x then ov else m₀ y)) (N : News h₀ L h' ledger) (g : G) : ForEnd h₀ L m₀ x ledger s₁ G Q .next { s₁ with heap := h', toks := tk' } := ⟨h', tk', ov, rfl, F, N, g⟩
theorem for_same {prog : Program} {w : World} {A : Around} {E : Value → Shared → Prop} {s : Shared} {env : Env} {h₀ : Heap} {x : PySem.Str} {body : List Stmt} {Q : Flow → Shared → Prop} {xv : Value} {n : Nat} {P : Nat → Value → Prop} {m₀ : PySem.Str → Option Value} {news : List (Addr × Obj)} (G : Nat → Prop)
    (S : SrcOk prog w A s xv n P) (F : Fr h₀ env.locals s.heap m₀) (N : News h₀ env.locals s.heap news) (g0 : G 0)
    (turn : ∀ i v h tk own, i < n → P i v → G i → Fr h₀ env.locals h (fun y => if y = x then some v else m₀ y) → News h₀ env.locals h (news ++ own) →
      wpAny (model prog w) A (execs body env) (ForEnd h₀ env.locals m₀ x (news ++ own) { s with heap := h, toks := tk } (G (i + 1)) Q) E { s with heap := h, toks := tk })
    (done : ∀ ov h tk, G n → Fr h₀ env.locals h (fun y => if y = x then ov else m₀ y) → News h₀ env.locals h news → Q .next { s with heap := h, toks := tk }) :
    wpAny (model prog w) A (pyIter xv) (fun it s₂ => LoopAtV prog w A h₀ env x body Q E it s₂) E s := by
  refine S _ _ fun o St W hIo hSt st0 => ?_
  have same : ∀ (m₁ : PySem.Str → Option Value), (∀ y, y ≠ x → m₁ y = m₀ y) → ∀ ov, (fun y => if y = x then ov else m₁ y) = fun y => if y = x then ov else m₀ y := fun m₁ hm ov => by
    funext y
    by_cases h : y = x
    · simp [h]
    · simp [h, hm y h]
  refine loop_invN (fun i m nx => nx = news ∧ (∀ y, y ≠ x → m y = m₀ y) ∧ G i) W ?_ ?_ ?_ ?_ st0 (F.push _) (fun p hp => ⟨Heap.get?_push_of_some _ (N p hp).1, (N p hp).2⟩) ⟨rfl, fun _ _ => rfl, g0⟩ ?_ ?_
  · intro hm
    exact absurd F.ns.lt ((List.mem_singleton.mp hm) ▸ Nat.lt_irrefl _)
  · intro b hb
    rw [List.mem_singleton.mp hb]
    exact next_is_new F
  · intro p hp hI
    exact absurd (Heap.lt_size (N p hp).1) ((List.mem_singleton.mp hI) ▸ Nat.lt_irrefl _)
  · intro p hp hI
    exact absurd (Heap.lt_size (N p hp).1) ((List.mem_singleton.mp hI) ▸ Nat.lt_irrefl _)
  · rintro i v m₁ news₁ h tk own hi hP _ hoff ⟨rfl, hm, hG⟩ F₁ N₁
    rw [same m₁ hm] at F₁
    refine wpAny_mono (turn i v h tk own hi hP hG F₁ N₁) (fun f s₂ p => ?_) fun _ _ e => e
    have fin : (∃ h' tk' ov, s₂ = { ({ s with heap := h, toks := tk } : Shared) with heap := h', toks := tk' } ∧ Fr h₀ env.locals h' (fun y => if y = x then ov else m₀ y) ∧ News h₀ env.locals h' (news₁ ++ own) ∧ G (i + 1)) →
        InvEndN h₀ env.locals (fun m nx => nx = news₁ ∧ (∀ y, y ≠ x → m y = m₀ y) ∧ G (i + 1)) own (news₁.map (·.1)) { s with heap := h, toks := tk } s₂ := by
      rintro ⟨h', tk', ov, rfl, F', N', g'⟩
      exact ⟨h', tk', _, _, news₁, rfl, F', N', fun p hp => List.mem_append_left _ hp, fun p hp => List.mem_append_right _ hp, rfl, rfl, fun y hy => by simp [hy], g'⟩
    cases f with
    | ret v => exact p
    | brk => exact p
    | next => exact fin p
    | cont => exact fin p
  · rintro m₁ nx h tk ⟨rfl, hm, hG⟩ F₁ N₁
    refine done (m₁ x) h tk hG ?_ N₁
    have e : m₁ = fun y => if y = x then m₁ x else m₀ y := by
      funext y
      by_cases h : y = x
      · simp [h]
      · simp [h, hm y h]
    rw [e] at F₁
    simpa using F₁
theorem byte_low {O : List UInt8} {i : Nat} (hO : ∀ c ∈ O, c.toNat < 128) (hi : i < O.length) : ¬ 127 < ((O.getD (i : Int).toNat 0).toNat : Int) := by
  rw [Int.toNat_natCast, List.getD_eq_getElem?_getD, List.getElem?_eq_getElem hi]
  have := hO _ (List.getElem_mem hi)
  show ¬ 127 < ((O[i]).toNat : Int)
  omega
abbrev txt (O : List UInt8) : PySem.Str := ⟨(O.map fun c => c.toNat).toArray⟩

theorem News.tl {h₀ h : Heap} {L : Addr} {p : Addr × Obj} {news : List (Addr × Obj)} (N : News h₀ L h (p :: news)) : News h₀ L h news := fun q hq => N q (.tail _ hq)

theorem reg23 : True := by
  k_with "mine:kn" => ((with_reducible rename News _ _ _ _ => N9); first | exact N9 | exact News.tl N9 | exact News.tl (News.tl N9) | exact News.tl (News.tl (News.tl N9)) | exact News.tl (News.tl (News.tl (News.tl N9))) | k_asm)
  trivial
theorem strs_of {α : Type} {f : α → PySem.Str} : ∀ {O : List α} {ys : List Value}, ys.length = O.length → (∀ (j : Nat) c, O[j]? = some c → ∃ y, ys[j]? = some y ∧ ∃ t, y = .str (f c) t) → StrsAre ys (O.map f)
  | [], [], _, _ => .nil
  | [], _ :: _, h, _ => absurd h (by simp)
  | _ :: _, [], h, _ => absurd h (by simp)
  | c :: O, y :: ys, h, H => by
    obtain ⟨y', e, t, rfl⟩ := H 0 c rfl
    cases e
    exact .cons _ _ (strs_of (by simpa using h) fun j c' hc => by obtain ⟨y', e, r⟩ := H (j + 1) c' (by simpa using hc); exact ⟨y', by simpa using e, r⟩)
theorem ints_of {α : Type} {f : α → Int} : ∀ {O : List α} {ys : List Value}, ys.length = O.length → (∀ (j : Nat) c, O[j]? = some c → ∃ y, ys[j]? = some y ∧ ∃ t, y = .int (f c) t) → IntsAre ys (O.map f)
  | [], [], _, _ => .nil
  | [], _ :: _, h, _ => absurd h (by simp)
  | _ :: _, [], h, _ => absurd h (by simp)
  | c :: O, y :: ys, h, H => by
    obtain ⟨y', e, t, rfl⟩ := H 0 c rfl
    cases e
    exact .cons _ _ (ints_of (by simpa using h) fun j c' hc => by obtain ⟨y', e, r⟩ := H (j + 1) c' (by simpa using hc); exact ⟨y', by simpa using e, r⟩)
theorem bools_of {α : Type} {f : α → Bool} : ∀ {O : List α} {ys : List Value}, ys.length = O.length → (∀ (j : Nat) c, O[j]? = some c → ∃ y, ys[j]? = some y ∧ y = .bool (f c)) → ys = O.map fun c => .bool (f c)
  | [], [], _, _ => rfl
  | [], _ :: _, h, _ => absurd h (by simp)
  | _ :: _, [], h, _ => absurd h (by simp)
  | c :: O, y :: ys, h, H => by
    obtain ⟨y', e, rfl⟩ := H 0 c rfl
    cases e
    exact congrArg _ (bools_of (f := f) (O := O) (by simpa using h) fun j c' hc => by obtain ⟨y', e, r⟩ := H (j + 1) c' (by simpa using hc); exact ⟨y', by simpa using e, r⟩)
/-- a text of the signs ns -/
abbrev tx (ns : List Nat) : PySem.Str := ⟨ns.toArray⟩
theorem len_tx (ns : List Nat) : (tx ns).length = ns.length := by show ns.toArray.size = _; simp
theorem join_tx : ∀ (ns : List Nat), Str.join ⟨#[]⟩ (ns.map fun n => (⟨#[n]⟩ : PySem.Str)) = tx ns := fun ns => by
  have := join_nil_signs (tx ns)
  rw [← this]
  congr 1
  try simp [signs]
theorem sum_ones : ∀ (ns : List Nat), ((ns.map fun n => (⟨#[n]⟩ : PySem.Str)).map (·.length)).sum = ns.length
  | [] => rfl
  | n :: ns => by rw [List.map_cons, List.map_cons, List.sum_cons, sum_ones ns, List.length_cons]; show 1 + _ = _; omega
section
variable {prog : Program} {w : World} {A : Around} {E : Value → Shared → Prop} {s : Shared} {h₀ : Heap} {L : Addr} {m : PySem.Str → Option Value} {env : Env} {elt : PySem.Expr} {x : PySem.Str} {scope : Scope} {cl : List (PySem.Str × Addr)} {Q : Value → Shared → Prop} {O : List UInt8} {t : Tok} {news : List (Addr × Obj)}
theorem join_one {ns : List Nat} {ys : List Value} {D : Addr} {u : Tok} (N : News h₀ L s.heap ((D, LCg.lst ys) :: news)) (hi : StrsAre ys (ns.map fun n => (⟨#[n]⟩ : PySem.Str))) (hl : ns.length ≤ 1048576) (h : ∀ t' k, Q (.str (tx ns) t') { s with toks := k }) :
    wpAny (model prog w) A (call (.builtin "str.join") [.str (Str.ofString "") u, .ref D]) Q E s :=
  join_list (N.isList (.head _)) hi (by rw [sum_ones, List.length_map, show (Str.ofString "").length = 0 from rfl]; omega) fun t' k => by
    have e : Txt.join (Str.ofString "") (ns.map fun n => (⟨#[n]⟩ : PySem.Str)) = tx ns := (eq_of_beq (join_closes (show Str.ofString "" = (⟨#[]⟩ : PySem.Str) from rfl))).trans (join_tx ns)
    rw [e]; exact h t' k
theorem byte_map (O : List UInt8) : ((O.map fun c => (c.toNat : Int)).map fun n => n.toNat.toUInt8) = O := by
  rw [List.map_map]
  conv => rhs; rw [← List.map_id O]
  refine List.map_congr_left fun c _ => ?_
  show (c.toNat : Int).toNat.toUInt8 = c
  simp
theorem compB_str (f : UInt8 → Nat) (hh : A.handled = none) (hsz : O.length ≤ 1048576) (F : Fr h₀ L s.heap m) (N : News h₀ L s.heap news)
    (turn : ∀ c ∈ O, ∀ u, Turn1 prog w A h₀ L m env elt x scope cl s news (.int (c.toNat : Int) u) (fun y => ∃ t, y = .str ⟨#[f c]⟩ t))
    (fin : ∀ ys, StrsAre ys ((O.map f).map fun n => (⟨#[n]⟩ : PySem.Str)) → ∀ D h tk, Fr h₀ L h m → News h₀ L h ((D, LCg.lst ys) :: news) → LCg.Off1 D news → Q (.ref D) { s with heap := h, toks := tk }) :
    CompS prog w A h₀ L m env elt x scope cl Q (.bytes O.toArray t) s :=
  compS_bytes _ hh hsz F N turn fun ys hl hR => fin ys (by rw [List.map_map]; exact strs_of hl hR)
theorem compB_int (f : UInt8 → Int) (hh : A.handled = none) (hsz : O.length ≤ 1048576) (F : Fr h₀ L s.heap m) (N : News h₀ L s.heap news)
    (turn : ∀ c ∈ O, ∀ u, Turn1 prog w A h₀ L m env elt x scope cl s news (.int (c.toNat : Int) u) (fun y => ∃ t, y = .int (f c) t))
    (fin : ∀ ys, IntsAre ys (O.map f) → ∀ D h tk, Fr h₀ L h m → News h₀ L h ((D, LCg.lst ys) :: news) → LCg.Off1 D news → Q (.ref D) { s with heap := h, toks := tk }) :
    CompS prog w A h₀ L m env elt x scope cl Q (.bytes O.toArray t) s :=
  compS_bytes _ hh hsz F N turn fun ys hl hR => fin ys (ints_of hl hR)
theorem compB_bool (f : UInt8 → Bool) (hh : A.handled = none) (hsz : O.length ≤ 1048576) (F : Fr h₀ L s.heap m) (N : News h₀ L s.heap news)
    (turn : ∀ c ∈ O, ∀ u, Turn1 prog w A h₀ L m env elt x scope cl s news (.int (c.toNat : Int) u) (fun y => y = .bool (f c)))
    (fin : ∀ D h tk, Fr h₀ L h m → News h₀ L h ((D, LCg.lst (O.map fun c => .bool (f c))) :: news) → LCg.Off1 D news → Q (.ref D) { s with heap := h, toks := tk }) :
    CompS prog w A h₀ L m env elt x scope cl Q (.bytes O.toArray t) s :=
  compS_bytes _ hh hsz F N turn fun ys hl hR => by rw [bools_of hl hR]; exact fin
theorem compT_str {ns : List Nat} (f : Nat → Nat) (hh : A.handled = none) (hsz : ns.length ≤ 1048576) (F : Fr h₀ L s.heap m) (N : News h₀ L s.heap news)
    (turn : ∀ c ∈ ns, ∀ u, Turn1 prog w A h₀ L m env elt x scope cl s news (.str ⟨#[c]⟩ u) (fun y => ∃ t, y = .str ⟨#[f c]⟩ t))
    (fin : ∀ ys, StrsAre ys ((ns.map f).map fun n => (⟨#[n]⟩ : PySem.Str)) → ∀ D h tk, Fr h₀ L h m → News h₀ L h ((D, LCg.lst ys) :: news) → LCg.Off1 D news → Q (.ref D) { s with heap := h, toks := tk }) :
    CompS prog w A h₀ L m env elt x scope cl Q (.str (tx ns) t) s :=
  compS_str _ hh hsz F N turn fun ys hl hR => fin ys (by rw [List.map_map]; exact strs_of hl hR)
theorem compT_int {ns : List Nat} (f : Nat → Int) (hh : A.handled = none) (hsz : ns.length ≤ 1048576) (F : Fr h₀ L s.heap m) (N : News h₀ L s.heap news)
    (turn : ∀ c ∈ ns, ∀ u, Turn1 prog w A h₀ L m env elt x scope cl s news (.str ⟨#[c]⟩ u) (fun y => ∃ t, y = .int (f c) t))
    (fin : ∀ ys, IntsAre ys (ns.map f) → ∀ D h tk, Fr h₀ L h m → News h₀ L h ((D, LCg.lst ys) :: news) → LCg.Off1 D news → Q (.ref D) { s with heap := h, toks := tk }) :
    CompS prog w A h₀ L m env elt x scope cl Q (.str (tx ns) t) s :=
  compS_str _ hh hsz F N turn fun ys hl hR => fin ys (ints_of hl hR)
theorem bytes_one {ns : List Int} {O : List UInt8} {ys : List Value} {D : Addr} (hh : A.handled = none) (F : Fr h₀ L s.heap m) (N : News h₀ L s.heap ((D, LCg.lst ys) :: news)) (hi : IntsAre ys ns) (e : ns = O.map fun c => (c.toNat : Int)) (hl : O.length ≤ 1048576)
    (h : ∀ t' h' k, Fr h₀ L h' m → News h₀ L h' ((D, LCg.lst ys) :: news) → Q (.bytes O.toArray t') { s with heap := h', toks := k }) :
    wpAny (model prog w) A (call (.type "bytes") [.ref D]) Q E s := by
  subst e
  have hy : ys.length = O.length := by have := hi.length; rwa [List.length_map] at this
  refine bytes_K F N (N.isList (.head _)) hi (fun n hn => ?_) (by rw [hy, sizeLine_eq]; omega) hh fun h' t' k F' N' _ => by rw [byte_map]; exact h t' h' k F' N'
  obtain ⟨c, _, rfl⟩ := List.mem_map.mp hn
  have := c.toNat_lt
  omega
end

theorem reg24 : True := by
  k_with "call builtin:str.join" => ((with_reducible rename StrsAre _ _ => hs9); (with_reducible rename News _ _ _ _ => N9); refine join_one N9 hs9 (by first | omega | (simp only [List.length_map]; omega) | (simp; omega)) ?_; intro _ _)
  trivial
theorem reg25 : True := by
  k_with "call type:bytes" => (k_here; (with_reducible show wpAny _ _ (call (Value.type "bytes") [Value.ref _]) _ _ _); (with_reducible rename IntsAre _ _ => hs9); (with_reducible rename _ = List.map _ _ => he9); (with_reducible rename Fr _ _ _ _ => F9); (with_reducible rename News _ _ _ _ => N9); refine bytes_one (by with_unfolding_all rfl) F9 N9 hs9 he9 (by first | omega | (simp; omega)) ?_; intro _ _ _ _ _)
  trivial
def octs (x : PySem.Str) : List UInt8 := x.cps.toList.map fun c => c.toUInt8
def upC (c : Nat) : Nat := if 97 ≤ c ∧ c ≤ 122 then c - 32 else c
def upS (x : PySem.Str) : PySem.Str := tx (x.cps.toList.map upC)
def lowC (c : Nat) : Nat := if 65 ≤ c ∧ c ≤ 90 then c + 32 else c
def lowS (x : PySem.Str) : PySem.Str := tx (x.cps.toList.map lowC)
theorem sign_lt {c d : Nat} : (([c] : List Nat) < [d]) ↔ c < d := by
  rw [List.cons_lt_cons_iff]
  simp
theorem up_lo {c : Nat} (h : (⟨#[c]⟩ : PySem.Str).cps.toList < (Str.ofString "a").cps.toList) : upC c = c := by
  have : c < 97 := sign_lt.mp h
  unfold upC; rw [if_neg (by omega)]
theorem up_hi {c : Nat} (h : (Str.ofString "z").cps.toList < (⟨#[c]⟩ : PySem.Str).cps.toList) : upC c = c := by
  have : 122 < c := sign_lt.mp h
  unfold upC; rw [if_neg (by omega)]
theorem up_in {c : Nat} (h : ¬ (⟨#[c]⟩ : PySem.Str).cps.toList < (Str.ofString "a").cps.toList) (h' : ¬ (Str.ofString "z").cps.toList < (⟨#[c]⟩ : PySem.Str).cps.toList) : 97 ≤ c ∧ c ≤ 122 := by
  have h1 : ¬ c < 97 := fun q => h (sign_lt.mpr q)
  have h2 : ¬ 122 < c := fun q => h' (sign_lt.mpr q)
  omega
theorem up_is {c : Nat} (h : ¬ (⟨#[c]⟩ : PySem.Str).cps.toList < (Str.ofString "a").cps.toList) (h' : ¬ (Str.ofString "z").cps.toList < (⟨#[c]⟩ : PySem.Str).cps.toList) : ((c : Int) - 32).toNat = upC c := by
  have := up_in h h'
  unfold upC; rw [if_pos this]; omega

theorem reg26 : True := by
  k_with "call builtin:chr" => (refine P.chr_of_int (by (have hb9 := fun c : UInt8 => c.toNat_lt); (simp only [Bool.or_eq_false_iff, decide_eq_false_iff_not]); first | omega | (have q9 := up_in (by assumption) (by assumption); omega) | (constructor <;> (have := hb9 (by assumption); omega)) | (constructor <;> (simp only [Int.toNat_natCast] at *; omega))) ?_)
  trivial
theorem c_ascii_text {w : World} {mean : ExcName → Option Value} {mg mb : PySem.Str → Option Value} {dp un : Nat} {gd : Option (List Code)} {cn : PySem.Str} {cs : Scope} {a : Addr} {ccd : Value} {cl : List (PySem.Str × Addr)} {outer : List Env} {A₀ : Around} {base h₀ : Heap} {L : Addr} {m : PySem.Str → Option Value} {s : Shared} {Q E : Value → Shared → Prop} {O : List UInt8} {t : Tok} {news : List (Addr × Obj)}
    (B : Below A₀ base outer h₀) (F : Fr h₀ L s.heap m) (X : (hd.heap_1 w.params).In h₀) (N : News h₀ L s.heap news) (T : Top topProg Lz mean mg mb h₀) (hk : cs.kind = .function) (hp : (∀ c ∈ O, c.toNat < 128) ∧ O.length ≤ 1024) (hdp : dp + 1 < recursionLimit) (hun : un + 16 < cLine)
    (hret : ∀ (t' : Tok) (h' : Heap) (tk' : Nat), Fr h₀ L h' m → News h₀ L h' news → Q (.str (txt O) t') { s with heap := h', toks := tk' }) :
    wpAny (model PySem.Challenge.rw_nz0333_01.row.prog w) (ktrTop dp un gd cn cs L a ccd cl outer) (call (.ref 235) [.bytes O.toArray t]) Q E s := by
  obtain ⟨hO, hl⟩ := hp
  refine wpAny_call ?_
  k_dflt cell_enter
  iterate 40 (first | (with_reducible show wpAny _ _ (pyIter _) _ _ _) | (k_unfold; (try dsimp only)) | walk1)
  refine for_same (G := fun _ => True) (src_range rfl (by assumption) (by rw [List.size_toArray]; omega)) (by k_asm) (by k_asm) trivial ?_ ?_
  · rintro i v h₁ tk₁ own hi ⟨t', rfl⟩ _ F₁ N₁
    have hi' : i < O.length := by simpa using hi
    k_steps
    · exact absurd (‹127 < ((O.getD _ _).toNat : Int)›) (byte_low hO hi')
    · exact ForEnd.intro (by k_asm) (by k_asm) trivial
  · intro ov h₁ tk₁ _ F₁ N₁
    k_steps
    refine compB_str (fun c => c.toNat) rfl (by omega) (by k_asm) (by k_asm) ?_ ?_
    · intro c hc u ys I oI C oC D m₂ h tk E' hC hx F' N'
      k_steps
      all_goals k_asm
    · intro ys hys D h tk F' N' o1
      k_steps
      exact hret _ _ _ (by k_asm) (by walk_at "mine:kn")

theorem reg27 : True := by
  k_with "call ref" => (k_here; (with_reducible show wpAny _ _ (call (Value.ref 235) _) _ _ _); k_dflt (refine' c_ascii_text ?k1 ?k2 ?k3 ?k4 ?k5 ?kK ?kp ?kd ?ku ?_; (case k1 => k_asm); (case k2 => k_asm); (case k3 => k_asm); (case k4 => k_asm); (case k5 => k_asm); (case kK => first | exact rfl | assumption); (case kp => exact ⟨by first | assumption | fail, by omega⟩); (case kd => ktr_room); (case ku => ktr_units); k_whole); intro _ _ _ _ _; (try dsimp only); (try k_fold))
  trivial
theorem c_word_isTag {w : World} {mean : ExcName → Option Value} {mg mb : PySem.Str → Option Value} {dp un : Nat} {gd : Option (List Code)} {cn : PySem.Str} {cs : Scope} {a : Addr} {ccd : Value} {cl : List (PySem.Str × Addr)} {outer : List Env} {A₀ : Around} {base h₀ : Heap} {L : Addr} {m : PySem.Str → Option Value} {s : Shared} {Q E : Value → Shared → Prop} {x dx : Addr} {k1 k2 t1 t2 : Tok} {D R : List UInt8} {i : Int} {rest : List (Addr × Obj)} {O : List UInt8} {t3 : Tok} {wh : PySem.Str}
    (B : Below A₀ base outer h₀) (F : Fr h₀ L s.heap m) (X : (hd.heap_1 w.params).In h₀) (N : News h₀ L s.heap ((x, instObj 549 dx) :: (dx, wdict w.params k1 k2 D t1 (i) t2 2) :: rest)) (T : Top topProg Lz mean mg mb h₀) (hk : cs.kind = .function) (hp : ((At D i (O ++ R) ∧ (∀ c ∈ O, isTag (c.toNat : Int) = true) ∧ ∀ c ∈ R.head?, isTag (c.toNat : Int) = false) ∧ @LT.lt Nat instLTNat dx x ∧ ∀ p ∈ rest, p.1 ≠ dx) ∧ O ≠ [] ∧ (∀ c ∈ O, c.toNat < 128) ∧ O.length ≤ 1024) (hdp : dp + 7 < recursionLimit) (hun : un + 56 < cLine)
    (hret : ∀ (t t2' : Tok) (h' : Heap) (tk' : Nat), Fr h₀ L h' m → News h₀ L h' ((x, instObj 549 dx) :: (dx, wdict w.params k1 k2 D t1 (i + O.length) t2' 2) :: rest) → Q (.str (txt O) t) { s with heap := h', toks := tk' }) :
    wpAny (model PySem.Challenge.rw_nz0333_01.row.prog w) (ktrTop dp un gd cn cs L a ccd cl outer) (call (.ref 435) [.ref x, .ref 329, .str wh t3]) Q E s := by
  obtain ⟨hp, hO0, hO1, hO2⟩ := hp
  have hO3 : O.length ≠ 0 := fun h => hO0 (List.eq_nil_of_length_eq_zero h)
  refine wpAny_call ?_
  k_dflt cell_enter
  k_steps
  · exact absurd ‹(O.toArray.size : Int) = 0› (by rw [List.size_toArray]; omega)
  · exact hret _ _ _ _ (by k_asm) (by walk_at "mine:kn")

theorem reg28 : True := by
  k_with "call ref" => (k_here; (with_reducible show wpAny _ _ (call (Value.ref 435) [_, Value.ref 329, _]) _ _ _); k_dflt (refine' c_word_isTag ?k1 ?k2 ?k3 ?k4 ?k5 ?kK ?kp ?kd ?ku ?_; (case k1 => k_asm); (case k2 => k_asm); (case k3 => k_asm); (case k4 => k_asm); (case k5 => k_asm); (case kK => first | exact rfl | assumption); (case kp => assumption); (case kd => ktr_room); (case ku => ktr_units); k_whole); intro _ _ _ _ _ _; (try dsimp only); (try k_fold))
  trivial
theorem c_word_isNam {w : World} {mean : ExcName → Option Value} {mg mb : PySem.Str → Option Value} {dp un : Nat} {gd : Option (List Code)} {cn : PySem.Str} {cs : Scope} {a : Addr} {ccd : Value} {cl : List (PySem.Str × Addr)} {outer : List Env} {A₀ : Around} {base h₀ : Heap} {L : Addr} {m : PySem.Str → Option Value} {s : Shared} {Q E : Value → Shared → Prop} {x dx : Addr} {k1 k2 t1 t2 : Tok} {D R : List UInt8} {i : Int} {rest : List (Addr × Obj)} {O : List UInt8} {t3 : Tok} {wh : PySem.Str}
    (B : Below A₀ base outer h₀) (F : Fr h₀ L s.heap m) (X : (hd.heap_1 w.params).In h₀) (N : News h₀ L s.heap ((x, instObj 549 dx) :: (dx, wdict w.params k1 k2 D t1 (i) t2 2) :: rest)) (T : Top topProg Lz mean mg mb h₀) (hk : cs.kind = .function) (hp : ((At D i (O ++ R) ∧ (∀ c ∈ O, isNam (c.toNat : Int) = true) ∧ ∀ c ∈ R.head?, isNam (c.toNat : Int) = false) ∧ @LT.lt Nat instLTNat dx x ∧ ∀ p ∈ rest, p.1 ≠ dx) ∧ O ≠ [] ∧ (∀ c ∈ O, c.toNat < 128) ∧ O.length ≤ 1024) (hdp : dp + 7 < recursionLimit) (hun : un + 56 < cLine)
    (hret : ∀ (t t2' : Tok) (h' : Heap) (tk' : Nat), Fr h₀ L h' m → News h₀ L h' ((x, instObj 549 dx) :: (dx, wdict w.params k1 k2 D t1 (i + O.length) t2' 2) :: rest) → Q (.str (txt O) t) { s with heap := h', toks := tk' }) :
    wpAny (model PySem.Challenge.rw_nz0333_01.row.prog w) (ktrTop dp un gd cn cs L a ccd cl outer) (call (.ref 435) [.ref x, .ref 674, .str wh t3]) Q E s := by
  obtain ⟨hp, hO0, hO1, hO2⟩ := hp
  have hO3 : O.length ≠ 0 := fun h => hO0 (List.eq_nil_of_length_eq_zero h)
  refine wpAny_call ?_
  k_dflt cell_enter
  k_steps
  · exact absurd ‹(O.toArray.size : Int) = 0› (by rw [List.size_toArray]; omega)
  · exact hret _ _ _ _ (by k_asm) (by walk_at "mine:kn")

theorem reg29 : True := by
  k_with "call ref" => (k_here; (with_reducible show wpAny _ _ (call (Value.ref 435) [_, Value.ref 674, _]) _ _ _); k_dflt (refine' c_word_isNam ?k1 ?k2 ?k3 ?k4 ?k5 ?kK ?kp ?kd ?ku ?_; (case k1 => k_asm); (case k2 => k_asm); (case k3 => k_asm); (case k4 => k_asm); (case k5 => k_asm); (case kK => first | exact rfl | assumption); (case kp => assumption); (case kd => ktr_room); (case ku => ktr_units); k_whole); intro _ _ _ _ _ _; (try dsimp only); (try k_fold))
  trivial
theorem octs_txt (O : List UInt8) : octs (txt O) = O := by
  unfold octs
  show ((O.map fun c => c.toNat).map fun c => c.toUInt8) = O
  rw [List.map_map]
  conv => rhs; rw [← List.map_id O]
  refine List.map_congr_left fun c _ => ?_
  show c.toNat.toUInt8 = c
  simp
theorem octs_ints {x : PySem.Str} (h : ∀ c ∈ x.cps.toList, c < 128) : x.cps.toList.map (fun c : Nat => (c : Int)) = (octs x).map fun c => (c.toNat : Int) := by
  unfold octs
  rw [List.map_map]
  refine List.map_congr_left fun c hc => ?_
  have := h c hc
  show (c : Int) = ((c.toUInt8).toNat : Int)
  rw [show c.toUInt8.toNat = c % 256 from by simp [Nat.toUInt8]]
  omega
theorem octs_len (x : PySem.Str) : (octs x).length = x.cps.toList.length := by unfold octs; rw [List.length_map]
theorem item_mem {x : PySem.Str} {i : Nat} (h : i < x.length) : (Txt.item x (i : Int)).cps.getD 0 0 ∈ x.cps.toList := by
  have h' : i < x.cps.size := h
  have e : Txt.charAt x (i : Int) = some x.cps[i] := by
    unfold Txt.charAt
    rw [seqIndex_of (by omega) (by omega)]
    show x.cps[(i : Int).toNat]? = _
    rw [Int.toNat_natCast, Array.getElem?_eq_getElem h']
  unfold Txt.item
  rw [e]
  show x.cps[i] ∈ x.cps.toList
  simp

theorem c_text_octets {w : World} {mean : ExcName → Option Value} {mg mb : PySem.Str → Option Value} {dp un : Nat} {gd : Option (List Code)} {cn : PySem.Str} {cs : Scope} {a : Addr} {ccd : Value} {cl : List (PySem.Str × Addr)} {outer : List Env} {A₀ : Around} {base h₀ : Heap} {L : Addr} {m : PySem.Str → Option Value} {s : Shared} {Q E : Value → Shared → Prop} {x : PySem.Str} {t : Tok} {news : List (Addr × Obj)}
    (B : Below A₀ base outer h₀) (F : Fr h₀ L s.heap m) (X : (hd.heap_1 w.params).In h₀) (N : News h₀ L s.heap news) (T : Top topProg Lz mean mg mb h₀) (hk : cs.kind = .function) (hp : (∀ c ∈ x.cps.toList, c < 128) ∧ x.cps.toList.length ≤ 1024) (hdp : dp + 1 < recursionLimit) (hun : un + 16 < cLine)
    (hret : ∀ (t' : Tok) (h' : Heap) (tk' : Nat), Fr h₀ L h' m → News h₀ L h' news → Q (.bytes (octs x).toArray t') { s with heap := h', toks := tk' }) :
    wpAny (model PySem.Challenge.rw_nz0333_01.row.prog w) (ktrTop dp un gd cn cs L a ccd cl outer) (call (.ref 240) [.str x t]) Q E s := by
  obtain ⟨hO, hl⟩ := hp
  have hl2 : x.length ≤ 1024 := by show x.cps.size ≤ 1024; simpa using hl
  refine wpAny_call ?_
  k_dflt cell_enter
  iterate 40 (first | (with_reducible show wpAny _ _ (pyIter _) _ _ _) | (k_unfold; (try dsimp only)) | walk1)
  refine for_same (G := fun _ => True) (src_range rfl (by assumption) (by omega)) (by k_asm) (by k_asm) trivial ?_ ?_
  · rintro i v h₁ tk₁ own hi ⟨t', rfl⟩ _ F₁ N₁
    k_steps
    · exact absurd ‹127 < (_ : Int)› (by have := hO _ (item_mem hi); omega)
    · exact ForEnd.intro (by k_asm) (by k_asm) trivial
  · intro ov h₁ tk₁ _ F₁ N₁
    k_steps
    refine compT_int (ns := x.cps.toList) (fun c : Nat => (c : Int)) rfl (by omega) (by k_asm) (by k_asm) ?_ ?_
    · intro c hc u ys I oI C oC D m₂ h tk E' hC hx F' N'
      k_steps
      all_goals k_asm
    · intro ys hys D h tk F' N' o1
      have e9 := octs_ints hO
      have e8 := octs_len x
      k_steps
      exact hret _ _ _ (by k_asm) (by walk_at "mine:kn")

theorem c_lower_code {w : World} {mean : ExcName → Option Value} {mg mb : PySem.Str → Option Value} {dp un : Nat} {gd : Option (List Code)} {cn : PySem.Str} {cs : Scope} {a : Addr} {ccd : Value} {cl : List (PySem.Str × Addr)} {outer : List Env} {A₀ : Around} {base h₀ : Heap} {L : Addr} {m : PySem.Str → Option Value} {s : Shared} {Q E : Value → Shared → Prop} {c : Nat} {t : Tok} {news : List (Addr × Obj)}
    (B : Below A₀ base outer h₀) (F : Fr h₀ L s.heap m) (X : (hd.heap_1 w.params).In h₀) (N : News h₀ L s.heap news) (T : Top topProg Lz mean mg mb h₀) (hk : cs.kind = .function) (hp : True) (hdp : dp + 1 < recursionLimit) (hun : un + 8 < cLine)
    (hret : ∀ (t' : Tok) (h' : Heap) (tk' : Nat), Fr h₀ L h' m → News h₀ L h' news → Q (.int (lowC c : Int) t') { s with heap := h', toks := tk' }) :
    wpAny (model PySem.Challenge.rw_nz0333_01.row.prog w) (ktrTop dp un gd cn cs L a ccd cl outer) (call (.ref 215) [.int (c : Int) t]) Q E s := by
  refine wpAny_call ?_
  k_dflt cell_enter
  k_steps
  · exact ret_i hret (by unfold lowC; rw [if_pos (by omega)]; rfl) (by k_asm) (by k_asm)
  · exact ret_i hret (by unfold lowC; rw [if_neg (by omega)]) (by k_asm) (by k_asm)
  · exact ret_i hret (by unfold lowC; rw [if_neg (by omega)]) (by k_asm) (by k_asm)

theorem c_upper_text {w : World} {mean : ExcName → Option Value} {mg mb : PySem.Str → Option Value} {dp un : Nat} {gd : Option (List Code)} {cn : PySem.Str} {cs : Scope} {a : Addr} {ccd : Value} {cl : List (PySem.Str × Addr)} {outer : List Env} {A₀ : Around} {base h₀ : Heap} {L : Addr} {m : PySem.Str → Option Value} {s : Shared} {Q E : Value → Shared → Prop} {x : PySem.Str} {t : Tok} {news : List (Addr × Obj)}
    (B : Below A₀ base outer h₀) (F : Fr h₀ L s.heap m) (X : (hd.heap_1 w.params).In h₀) (N : News h₀ L s.heap news) (T : Top topProg Lz mean mg mb h₀) (hk : cs.kind = .function) (hp : (∀ c ∈ x.cps.toList, c < 128) ∧ x.cps.toList.length ≤ 1024) (hdp : dp + 1 < recursionLimit) (hun : un + 16 < cLine)
    (hret : ∀ (t' : Tok) (h' : Heap) (tk' : Nat), Fr h₀ L h' m → News h₀ L h' news → Q (.str (upS x) t') { s with heap := h', toks := tk' }) :
    wpAny (model PySem.Challenge.rw_nz0333_01.row.prog w) (ktrTop dp un gd cn cs L a ccd cl outer) (call (.ref 230) [.str x t]) Q E s := by
  obtain ⟨hO, hl⟩ := hp
  refine wpAny_call ?_
  k_dflt cell_enter
  k_steps
  refine compT_str (ns := x.cps.toList) upC rfl (by omega) (by k_asm) (by k_asm) ?_ ?_
  · intro c hc u ys I oI C oC D m₂ h tk E' hC hx F' N'
    k_steps
    all_goals first | exact congrArg (fun q => Value.str ⟨#[q]⟩ _) (up_lo (by assumption)).symm | exact congrArg (fun q => Value.str ⟨#[q]⟩ _) (up_hi (by assumption)).symm | exact congrArg (fun q => Value.str ⟨#[q]⟩ _) (up_is (by assumption) (by assumption)) | k_asm
  · intro ys hys D h tk F' N' o1
    k_steps
    exact hret _ _ _ (by k_asm) (by walk_at "mine:kn")

theorem reg30 : True := by
  k_with "call ref" => (k_here; (with_reducible show wpAny _ _ (call (Value.ref 240) _) _ _ _); k_dflt (refine' c_text_octets ?k1 ?k2 ?k3 ?k4 ?k5 ?kK ?kp ?kd ?ku ?_; (case k1 => k_asm); (case k2 => k_asm); (case k3 => k_asm); (case k4 => k_asm); (case k5 => k_asm); (case kK => first | exact rfl | assumption); (case kp => exact ⟨by first | assumption | decide, by first | omega | decide⟩); (case kd => ktr_room); (case ku => ktr_units); k_whole); intro _ _ _ _ _; (try dsimp only); (try k_fold))
  trivial
theorem reg31 : True := by
  k_with "call ref" => (k_here; (with_reducible show wpAny _ _ (call (Value.ref 215) _) _ _ _); k_dflt (refine' c_lower_code ?k1 ?k2 ?k3 ?k4 ?k5 ?kK ?kp ?kd ?ku ?_; (case k1 => k_asm); (case k2 => k_asm); (case k3 => k_asm); (case k4 => k_asm); (case k5 => k_asm); (case kK => first | exact rfl | assumption); (case kp => trivial); (case kd => ktr_room); (case ku => ktr_units); k_whole); intro _ _ _ _ _; (try dsimp only); (try k_fold))
  trivial
theorem reg32 : True := by
  k_with "call ref" => (k_here; (with_reducible show wpAny _ _ (call (Value.ref 230) _) _ _ _); k_dflt (refine' c_upper_text ?k1 ?k2 ?k3 ?k4 ?k5 ?kK ?kp ?kd ?ku ?_; (case k1 => k_asm); (case k2 => k_asm); (case k3 => k_asm); (case k4 => k_asm); (case k5 => k_asm); (case kK => first | exact rfl | assumption); (case kp => exact ⟨by assumption, by omega⟩); (case kd => ktr_room); (case ku => ktr_units); k_whole); intro _ _ _ _ _; (try dsimp only); (try k_fold))
  trivial
/-- the end of a turn: the locals satisfy J -/
def ForEndJ (h₀ : Heap) (L : Addr) (J : (PySem.Str → Option Value) → Prop) (ledger : List (Addr × Obj)) (s₁ : Shared) (Q : Flow → Shared → Prop) (f : Flow) (s₂ : Shared) : Prop :=
  match f with
  | .ret v => Q (.ret v) s₂
  | .brk => Q .next s₂
  | _ => ∃ h' tk' m', s₂ = { s₁ with heap := h', toks := tk' } ∧ Fr h₀ L h' m' ∧ News h₀ L h' ledger ∧ J m'
theorem ForEndJ.intro {h₀ h' : Heap} {L : Addr} {J : (PySem.Str → Option Value) → Prop} {ledger : List (Addr × Obj)} {s₁ : Shared} {Q : Flow → Shared → Prop} {tk' : Nat} {m' : PySem.Str → Option Value}
    (F : Fr h₀ L h' m') (N : News h₀ L h' ledger) (g : J m') : ForEndJ h₀ L J ledger s₁ Q .next { s₁ with heap := h', toks := tk' } := ⟨h', tk', m', rfl, F, N, g⟩
theorem for_inv {prog : Program} {w : World} {A : Around} {E : Value → Shared → Prop} {s : Shared} {env : Env} {h₀ : Heap} {x : PySem.Str} {body : List Stmt} {Q : Flow → Shared → Prop} {xv : Value} {n : Nat} {P : Nat → Value → Prop} {m₀ : PySem.Str → Option Value} {news : List (Addr × Obj)} (J : Nat → (PySem.Str → Option Value) → Prop)
    (S : SrcOk prog w A s xv n P) (F : Fr h₀ env.locals s.heap m₀) (N : News h₀ env.locals s.heap news) (g0 : J 0 m₀)
    (turn : ∀ i v m₁ h tk own, i < n → P i v → J i m₁ → Fr h₀ env.locals h (fun y => if y = x then some v else m₁ y) → News h₀ env.locals h (news ++ own) →
      wpAny (model prog w) A (execs body env) (ForEndJ h₀ env.locals (J (i + 1)) (news ++ own) { s with heap := h, toks := tk } Q) E { s with heap := h, toks := tk })
    (done : ∀ m₁ h tk, J n m₁ → Fr h₀ env.locals h m₁ → News h₀ env.locals h news → Q .next { s with heap := h, toks := tk }) :
    wpAny (model prog w) A (pyIter xv) (fun it s₂ => LoopAtV prog w A h₀ env x body Q E it s₂) E s := by
  refine S _ _ fun o St W hIo hSt st0 => ?_
  refine loop_invN (fun i m nx => nx = news ∧ J i m) W ?_ ?_ ?_ ?_ st0 (F.push _) (fun p hp => ⟨Heap.get?_push_of_some _ (N p hp).1, (N p hp).2⟩) ⟨rfl, g0⟩ ?_ ?_
  · intro hm
    exact absurd F.ns.lt ((List.mem_singleton.mp hm) ▸ Nat.lt_irrefl _)
  · intro b hb
    rw [List.mem_singleton.mp hb]
    exact next_is_new F
  · intro p hp hI
    exact absurd (Heap.lt_size (N p hp).1) ((List.mem_singleton.mp hI) ▸ Nat.lt_irrefl _)
  · intro p hp hI
    exact absurd (Heap.lt_size (N p hp).1) ((List.mem_singleton.mp hI) ▸ Nat.lt_irrefl _)
  · rintro i v m₁ news₁ h tk own hi hP _ hoff ⟨rfl, hJ⟩ F₁ N₁
    refine wpAny_mono (turn i v m₁ h tk own hi hP hJ F₁ N₁) (fun f s₂ p => ?_) fun _ _ e => e
    have fin : (∃ h' tk' m', s₂ = { ({ s with heap := h, toks := tk } : Shared) with heap := h', toks := tk' } ∧ Fr h₀ env.locals h' m' ∧ News h₀ env.locals h' (news₁ ++ own) ∧ J (i + 1) m') →
        InvEndN h₀ env.locals (fun m nx => nx = news₁ ∧ J (i + 1) m) own (news₁.map (·.1)) { s with heap := h, toks := tk } s₂ := by
      rintro ⟨h', tk', m', rfl, F', N', g'⟩
      exact ⟨h', tk', m', _, news₁, rfl, F', N', fun p hp => List.mem_append_left _ hp, fun p hp => List.mem_append_right _ hp, rfl, rfl, g'⟩
    cases f with
    | ret v => exact p
    | brk => exact p
    | next => exact fin p
    | cont => exact fin p
  · rintro m₁ nx h tk ⟨rfl, hJ⟩ F₁ N₁
    exact done m₁ h tk hJ F₁ N₁
theorem cut_first (ns : List Nat) : Txt.slice (tx ns) none (some 1) = tx (ns.take 1) := by
  cases ns with
  | nil => rfl
  | cons n ns => exact eq_of_beq (slice_closes_to (x := tx (n :: ns)) (j := 1) ⟨by omega, by simp; omega⟩)
theorem cut_last (ns : List Nat) : Txt.slice (tx ns) (some (-1)) none = tx (ns.drop (ns.length - 1)) := by
  cases ns with
  | nil => rfl
  | cons n ns =>
    have := eq_of_beq (slice_closes_from_neg (x := tx (n :: ns)) (i := -1) (a := (ns.length : Int)) (b := (ns.length : Int) + 1) (by omega) (by rw [len_tx]; simp; omega) (by rw [len_tx]; simp; omega) (by rw [len_tx]; simp))
    rw [this]
    simp
    exact List.take_of_length_le (by rw [List.length_drop, List.length_cons]; omega)
theorem first_no {O : List UInt8} (h : O.head? ≠ some 91) (q : (Txt.slice (tx (O.map fun c => c.toNat)) none (some 1) == Str.ofString "[") = true) : False := by
  rw [cut_first] at q
  have q := eq_of_beq q
  cases O with
  | nil => exact absurd (congrArg (fun x : PySem.Str => x.cps.size) q) (by decide)
  | cons c O =>
    have q2 : [c.toNat] = [91] := congrArg (fun x : PySem.Str => x.cps.toList) q
    have q3 : c.toNat = 91 := by simpa using q2
    exact h (by rw [List.head?_cons, show c = 91 from UInt8.toNat_inj.mp q3])
theorem last_no {O : List UInt8} (h : O.getLast? ≠ some 125) (q : (Txt.slice (tx (O.map fun c => c.toNat)) (some (-1)) none == Str.ofString "}") = true) : False := by
  rw [cut_last] at q
  have q := eq_of_beq q
  rcases List.eq_nil_or_concat O with rfl | ⟨P, c, rfl⟩
  · exact absurd (congrArg (fun x : PySem.Str => x.cps.size) q) (by decide)
  · rw [List.concat_eq_append] at q h
    have q2 : (((P ++ [c]).map fun c => c.toNat).drop (((P ++ [c]).map fun c => c.toNat).length - 1)) = [125] := congrArg (fun x : PySem.Str => x.cps.toList) q
    rw [List.map_append, List.length_append, List.length_map] at q2
    have q3 : c.toNat = 125 := by simpa using q2
    exact h (by rw [List.getLast?_append]; simp; exact UInt8.toNat_inj.mp q3)

def lowB (O : List UInt8) : List UInt8 := O.map fun c => (lowC c.toNat).toUInt8
theorem lowC_le (c : UInt8) : lowC c.toNat < 256 := by have := c.toNat_lt; unfold lowC; split <;> omega
theorem lowB_ints (O : List UInt8) : O.map (fun c : UInt8 => (lowC c.toNat : Int)) = (lowB O).map fun c => (c.toNat : Int) := by
  unfold lowB
  rw [List.map_map]
  refine List.map_congr_left fun c _ => ?_
  have := lowC_le c
  show (lowC c.toNat : Int) = (((lowC c.toNat).toUInt8).toNat : Int)
  rw [show (lowC c.toNat).toUInt8.toNat = lowC c.toNat % 256 from by simp [Nat.toUInt8]]
  omega
theorem lowB_len (O : List UInt8) : (lowB O).length = O.length := by unfold lowB; rw [List.length_map]
theorem lowC_low {c : Nat} (h : c < 128) : lowC c < 128 := by unfold lowC; split <;> omega

theorem reg33 : True := by
  k_with "call builtin:chr" => (refine P.chr_of_int (by have := lowC_low (c := _) (by (first | assumption | exact ‹∀ c ∈ _, c < 128› _ (by assumption))); (simp only [Bool.or_eq_false_iff, decide_eq_false_iff_not]); omega) ?_)
  trivial
theorem c_lower {w : World} {mean : ExcName → Option Value} {mg mb : PySem.Str → Option Value} {dp un : Nat} {gd : Option (List Code)} {cn : PySem.Str} {cs : Scope} {a : Addr} {ccd : Value} {cl : List (PySem.Str × Addr)} {outer : List Env} {A₀ : Around} {base h₀ : Heap} {L : Addr} {m : PySem.Str → Option Value} {s : Shared} {Q E : Value → Shared → Prop} {O : List UInt8} {t : Tok} {news : List (Addr × Obj)}
    (B : Below A₀ base outer h₀) (F : Fr h₀ L s.heap m) (X : (hd.heap_1 w.params).In h₀) (N : News h₀ L s.heap news) (T : Top topProg Lz mean mg mb h₀) (hk : cs.kind = .function) (hp : O.length ≤ 1024) (hdp : dp + 2 < recursionLimit) (hun : un + 24 < cLine)
    (hret : ∀ (t' : Tok) (h' : Heap) (tk' : Nat), Fr h₀ L h' m → News h₀ L h' news → Q (.bytes (lowB O).toArray t') { s with heap := h', toks := tk' }) :
    wpAny (model PySem.Challenge.rw_nz0333_01.row.prog w) (ktrTop dp un gd cn cs L a ccd cl outer) (call (.ref 220) [.bytes O.toArray t]) Q E s := by
  refine wpAny_call ?_
  k_dflt cell_enter
  k_steps
  refine compB_int (fun c => (lowC c.toNat : Int)) rfl (by omega) (by k_asm) (by k_asm) ?_ ?_
  · intro c hc u ys I oI C oC D m₂ h tk E' hC hx F' N'
    k_steps
    all_goals k_asm
  · intro ys hys D h tk F' N' o1
    have e9 := lowB_ints O
    have e8 := lowB_len O
    k_steps
    exact hret _ _ _ (by k_asm) (by walk_at "mine:kn")

theorem c_lower_text {w : World} {mean : ExcName → Option Value} {mg mb : PySem.Str → Option Value} {dp un : Nat} {gd : Option (List Code)} {cn : PySem.Str} {cs : Scope} {a : Addr} {ccd : Value} {cl : List (PySem.Str × Addr)} {outer : List Env} {A₀ : Around} {base h₀ : Heap} {L : Addr} {m : PySem.Str → Option Value} {s : Shared} {Q E : Value → Shared → Prop} {x : PySem.Str} {t : Tok} {news : List (Addr × Obj)}
    (B : Below A₀ base outer h₀) (F : Fr h₀ L s.heap m) (X : (hd.heap_1 w.params).In h₀) (N : News h₀ L s.heap news) (T : Top topProg Lz mean mg mb h₀) (hk : cs.kind = .function) (hp : (∀ c ∈ x.cps.toList, c < 128) ∧ x.cps.toList.length ≤ 1024) (hdp : dp + 2 < recursionLimit) (hun : un + 24 < cLine)
    (hret : ∀ (t' : Tok) (h' : Heap) (tk' : Nat), Fr h₀ L h' m → News h₀ L h' news → Q (.str (lowS x) t') { s with heap := h', toks := tk' }) :
    wpAny (model PySem.Challenge.rw_nz0333_01.row.prog w) (ktrTop dp un gd cn cs L a ccd cl outer) (call (.ref 225) [.str x t]) Q E s := by
  obtain ⟨hO, hl⟩ := hp
  refine wpAny_call ?_
  k_dflt cell_enter
  k_steps
  refine compT_str (ns := x.cps.toList) lowC rfl (by omega) (by k_asm) (by k_asm) ?_ ?_
  · intro c hc u ys I oI C oC D m₂ h tk E' hC hx F' N'
    k_steps
    all_goals first | exact congrArg (fun q => Value.str ⟨#[q]⟩ _) (Int.toNat_natCast _) | k_asm
  · intro ys hys D h tk F' N' o1
    k_steps
    exact hret _ _ _ (by k_asm) (by walk_at "mine:kn")

theorem c_wire_word {w : World} {mean : ExcName → Option Value} {mg mb : PySem.Str → Option Value} {dp un : Nat} {gd : Option (List Code)} {cn : PySem.Str} {cs : Scope} {a : Addr} {ccd : Value} {cl : List (PySem.Str × Addr)} {outer : List Env} {A₀ : Around} {base h₀ : Heap} {L : Addr} {m : PySem.Str → Option Value} {s : Shared} {Q E : Value → Shared → Prop} {x dx : Addr} {k1 k2 t1 t2 : Tok} {D R : List UInt8} {i : Int} {rest : List (Addr × Obj)} {O : List UInt8}
    (B : Below A₀ base outer h₀) (F : Fr h₀ L s.heap m) (X : (hd.heap_1 w.params).In h₀) (N : News h₀ L s.heap ((x, instObj 549 dx) :: (dx, wdict w.params k1 k2 D t1 (i) t2 2) :: rest)) (T : Top topProg Lz mean mg mb h₀) (hk : cs.kind = .function) (hp : ((At D i (O ++ R) ∧ (∀ c ∈ O, isNam (c.toNat : Int) = true) ∧ ∀ c ∈ R.head?, isNam (c.toNat : Int) = false) ∧ @LT.lt Nat instLTNat dx x ∧ ∀ p ∈ rest, p.1 ≠ dx) ∧ O ≠ [] ∧ (∀ c ∈ O, c.toNat < 128) ∧ O.length ≤ 1024) (hdp : dp + 8 < recursionLimit) (hun : un + 64 < cLine)
    (hret : ∀ (t t2' : Tok) (h' : Heap) (tk' : Nat), Fr h₀ L h' m → News h₀ L h' ((x, instObj 549 dx) :: (dx, wdict w.params k1 k2 D t1 (i + O.length) t2' 2) :: rest) → Q (.str (txt O) t) { s with heap := h', toks := tk' }) :
    wpAny (model PySem.Challenge.rw_nz0333_01.row.prog w) (ktrTop dp un gd cn cs L a ccd cl outer) (call (.ref 688) [.ref x]) Q E s := by
  refine wpAny_call ?_
  k_dflt cell_enter
  k_steps
  exact hret _ _ _ _ (by k_asm) (by walk_at "mine:kn")

theorem c_figures1 {w : World} {mean : ExcName → Option Value} {mg mb : PySem.Str → Option Value} {dp un : Nat} {gd : Option (List Code)} {cn : PySem.Str} {cs : Scope} {a : Addr} {ccd : Value} {cl : List (PySem.Str × Addr)} {outer : List Env} {A₀ : Around} {base h₀ : Heap} {L : Addr} {m : PySem.Str → Option Value} {s : Shared} {Q E : Value → Shared → Prop} {t : Tok} {news : List (Addr × Obj)}
    (B : Below A₀ base outer h₀) (F : Fr h₀ L s.heap m) (X : (hd.heap_1 w.params).In h₀) (N : News h₀ L s.heap news) (T : Top topProg Lz mean mg mb h₀) (hk : cs.kind = .function) (hp : True) (hdp : dp + 2 < recursionLimit) (hun : un + 24 < cLine)
    (hret : ∀ (t' : Tok) (h' : Heap) (tk' : Nat), Fr h₀ L h' m → News h₀ L h' news → Q (.int 7 t') { s with heap := h', toks := tk' }) :
    wpAny (model PySem.Challenge.rw_nz0333_01.row.prog w) (ktrTop dp un gd cn cs L a ccd cl outer) (call (.ref 357) [.bytes [55].toArray t]) Q E s := by
  refine wpAny_call ?_
  k_dflt cell_enter
  iterate 40 (first | (with_reducible show wpAny _ _ (pyIter _) _ _ _) | (k_unfold; (try dsimp only)) | walk1)
  refine for_inv (J := fun i m => ∃ (t : Tok) (mm : PySem.Str → Option Value), m = fun y => if y = Str.ofString "number" then some (.int (if i = 0 then 0 else 7) t) else mm y) (src_bytes rfl _ _) (by k_asm) (by k_asm) ?_ ?_ ?_
  · exact ⟨_, _, rfl⟩
  · rintro i v m₁ h₁ tk₁ own hi ⟨c, u, hc, rfl⟩ ⟨t', mm, rfl⟩ F₁ N₁
    obtain rfl : i = 0 := by simp at hi; omega
    obtain rfl : c = 55 := by simpa using hc.symm
    k_steps
    exact ForEndJ.intro (by k_asm) (by k_asm) ⟨_, _, rfl⟩
  · rintro m₁ h₁ tk₁ ⟨t', mm, rfl⟩ F₁ N₁
    k_steps
    exact hret _ _ _ (by k_asm) (by walk_at "mine:kn")

theorem reg34 : True := by
  k_with "call ref" => (k_here; (with_reducible show wpAny _ _ (call (Value.ref 357) [Value.bytes (List.toArray [55]) _]) _ _ _); k_dflt (refine' c_figures1 ?k1 ?k2 ?k3 ?k4 ?k5 ?kK ?kp ?kd ?ku ?_; (case k1 => k_asm); (case k2 => k_asm); (case k3 => k_asm); (case k4 => k_asm); (case k5 => k_asm); (case kK => first | exact rfl | assumption); (case kp => trivial); (case kd => ktr_room); (case ku => ktr_units); k_whole); intro _ _ _ _ _; (try dsimp only); (try k_fold))
  trivial
theorem reg35 : True := by
  k_with "call ref" => (k_here; (with_reducible show wpAny _ _ (call (Value.ref 220) _) _ _ _); k_dflt (refine' c_lower ?k1 ?k2 ?k3 ?k4 ?k5 ?kK ?kp ?kd ?ku ?_; (case k1 => k_asm); (case k2 => k_asm); (case k3 => k_asm); (case k4 => k_asm); (case k5 => k_asm); (case kK => first | exact rfl | assumption); (case kp => first | omega | (simp; done) | decide); (case kd => ktr_room); (case ku => ktr_units); k_whole); intro _ _ _ _ _; (try dsimp only); (try k_fold))
  trivial
theorem reg36 : True := by
  k_with "call ref" => (k_here; (with_reducible show wpAny _ _ (call (Value.ref 225) _) _ _ _); k_dflt (refine' c_lower_text ?k1 ?k2 ?k3 ?k4 ?k5 ?kK ?kp ?kd ?ku ?_; (case k1 => k_asm); (case k2 => k_asm); (case k3 => k_asm); (case k4 => k_asm); (case k5 => k_asm); (case kK => first | exact rfl | assumption); (case kp => exact ⟨by assumption, by omega⟩); (case kd => ktr_room); (case ku => ktr_units); k_whole); intro _ _ _ _ _; (try dsimp only); (try k_fold))
  trivial
theorem reg37 : True := by
  k_with "call ref" => (k_here; (with_reducible show wpAny _ _ (call (Value.ref 688) _) _ _ _); k_dflt (refine' c_wire_word ?k1 ?k2 ?k3 ?k4 ?k5 ?kK ?kp ?kd ?ku ?_; (case k1 => k_asm); (case k2 => k_asm); (case k3 => k_asm); (case k4 => k_asm); (case k5 => k_asm); (case kK => first | exact rfl | assumption); (case kp => assumption); (case kd => ktr_room); (case ku => ktr_units); k_whole); intro _ _ _ _ _ _; (try dsimp only); (try k_fold))
  trivial
theorem c_rest_text {w : World} {mean : ExcName → Option Value} {mg mb : PySem.Str → Option Value} {dp un : Nat} {gd : Option (List Code)} {cn : PySem.Str} {cs : Scope} {a : Addr} {ccd : Value} {cl : List (PySem.Str × Addr)} {outer : List Env} {A₀ : Around} {base h₀ : Heap} {L : Addr} {m : PySem.Str → Option Value} {s : Shared} {Q E : Value → Shared → Prop} {x dx : Addr} {k1 k2 t1 t2 : Tok} {D R : List UInt8} {i : Int} {rest : List (Addr × Obj)} {O : List UInt8}
    (B : Below A₀ base outer h₀) (F : Fr h₀ L s.heap m) (X : (hd.heap_1 w.params).In h₀) (N : News h₀ L s.heap ((x, instObj 549 dx) :: (dx, wdict w.params k1 k2 D t1 (i) t2 2) :: rest)) (T : Top topProg Lz mean mg mb h₀) (hk : cs.kind = .function) (hp : ((At D i (O ++ R) ∧ (∀ c ∈ O, isTx (c.toNat : Int) = true) ∧ ∀ c ∈ R.head?, isTx (c.toNat : Int) = false) ∧ @LT.lt Nat instLTNat dx x ∧ ∀ p ∈ rest, p.1 ≠ dx) ∧ (O.head? ≠ some 91 ∧ O.getLast? ≠ some 125) ∧ O.length ≤ 1024) (hdp : dp + 8 < recursionLimit) (hun : un + 64 < cLine)
    (hret : ∀ (t t2' : Tok) (h' : Heap) (tk' : Nat), Fr h₀ L h' m → News h₀ L h' ((x, instObj 549 dx) :: (dx, wdict w.params k1 k2 D t1 (i + O.length) t2' 2) :: rest) → Q (.str (txt O) t) { s with heap := h', toks := tk' }) :
    wpAny (model PySem.Challenge.rw_nz0333_01.row.prog w) (ktrTop dp un gd cn cs L a ccd cl outer) (call (.ref 745) [.ref x]) Q E s := by
  obtain ⟨hp, ⟨hp3, hp4⟩, hp5⟩ := hp
  refine wpAny_call ?_
  k_dflt cell_enter
  k_steps
  refine compB_str (fun c => c.toNat) rfl (by omega) (by k_asm) (by k_asm) ?_ ?_
  · intro c hc u ys I oI C oC D m₂ h tk E' hC hx F' N'
    k_steps
    all_goals k_asm
  · intro ys hys D h tk F' N' o1
    have hz9 : (tx (O.map fun c => c.toNat)).length ≤ 1048576 := by rw [len_tx, List.length_map]; omega
    k_steps
    · exact (first_no hp3 (by assumption)).elim
    · exact (last_no hp4 (by assumption)).elim
    · exact hret _ _ _ _ (by k_asm) (by walk_at "mine:kn")

theorem reg38 : True := by
  k_with "call ref" => (k_here; (with_reducible show wpAny _ _ (call (Value.ref 745) _) _ _ _); k_dflt (refine' c_rest_text ?k1 ?k2 ?k3 ?k4 ?k5 ?kK ?kp ?kd ?ku ?_; (case k1 => k_asm); (case k2 => k_asm); (case k3 => k_asm); (case k4 => k_asm); (case k5 => k_asm); (case kK => first | exact rfl | assumption); (case kp => assumption); (case kd => ktr_room); (case ku => ktr_units); k_whole); intro _ _ _ _ _ _; (try dsimp only); (try k_fold))
  trivial
theorem compB_one {prog : Program} {w : World} {A : Around} {s : Shared} {h₀ : Heap} {L : Addr} {m : PySem.Str → Option Value} {env : Env} {elt : PySem.Expr} {x : PySem.Str} {scope : Scope} {cl : List (PySem.Str × Addr)} {Q : Value → Shared → Prop} {c : UInt8} {t : Tok} {news : List (Addr × Obj)} (b : Bool) (hh : A.handled = none) (F : Fr h₀ L s.heap m) (N : News h₀ L s.heap news)
    (turn : ∀ u, Turn1 prog w A h₀ L m env elt x scope cl s news (.int (c.toNat : Int) u) (fun y => y = .bool b))
    (fin : ∀ D h tk, Fr h₀ L h m → News h₀ L h ((D, LCg.lst [.bool b]) :: news) → LCg.Off1 D news → Q (.ref D) { s with heap := h, toks := tk }) :
    CompS prog w A h₀ L m env elt x scope cl Q (.bytes [c].toArray t) s :=
  compB_bool (fun _ => b) hh (by simp) F N (fun c' hc => by obtain rfl : c' = c := by simpa using hc
                                                            exact turn) fin

theorem c_plain7 {w : World} {mean : ExcName → Option Value} {mg mb : PySem.Str → Option Value} {dp un : Nat} {gd : Option (List Code)} {cn : PySem.Str} {cs : Scope} {a : Addr} {ccd : Value} {cl : List (PySem.Str × Addr)} {outer : List Env} {A₀ : Around} {base h₀ : Heap} {L : Addr} {m : PySem.Str → Option Value} {s : Shared} {Q E : Value → Shared → Prop} {x dx : Addr} {k1 k2 t1 t2 : Tok} {D R : List UInt8} {i : Int} {rest : List (Addr × Obj)} 
    (B : Below A₀ base outer h₀) (F : Fr h₀ L s.heap m) (X : (hd.heap_1 w.params).In h₀) (N : News h₀ L s.heap ((x, instObj 549 dx) :: (dx, wdict w.params k1 k2 D t1 (i) t2 2) :: rest)) (T : Top topProg Lz mean mg mb h₀) (hk : cs.kind = .function) (hp : At D i (55 :: 93 :: R) ∧ @LT.lt Nat instLTNat dx x ∧ ∀ p ∈ rest, p.1 ≠ dx) (hdp : dp + 8 < recursionLimit) (hun : un + 64 < cLine)
    (hret : ∀ (t t2' : Tok) (h' : Heap) (tk' : Nat), Fr h₀ L h' m → News h₀ L h' ((x, instObj 549 dx) :: (dx, wdict w.params k1 k2 D t1 (i + 1) t2' 2) :: rest) → Q (.int 7 t) { s with heap := h', toks := tk' }) :
    wpAny (model PySem.Challenge.rw_nz0333_01.row.prog w) (ktrTop dp un gd cn cs L a ccd cl outer) (call (.ref 538) [.ref x]) Q E s := by
  obtain ⟨hp, hne, hnr⟩ := hp
  have hp7 : (At D i ([55] ++ 93 :: R) ∧ (∀ c ∈ [55], isVal ((c : UInt8).toNat : Int) = true) ∧ ∀ c ∈ (93 :: R).head?, isVal ((c : UInt8).toNat : Int) = false) ∧ @LT.lt Nat instLTNat dx x ∧ ∀ p ∈ rest, p.1 ≠ dx := ⟨⟨hp, by decide, fun c hc => by cases hc; decide⟩, hne, hnr⟩
  refine wpAny_call ?_
  k_dflt cell_enter
  k_steps
  refine compB_one true rfl (by k_asm) (by k_asm) ?_ ?_
  · intro u ys I oI C oC D m₂ h tk E' hC hx F' N'
    k_steps
    all_goals first | k_asm | decide
  · intro D h tk F' N' o1
    k_steps
    exact hret _ _ _ _ (by k_asm) (by walk_at "mine:kn")

theorem c_is_quotable1 {w : World} {mean : ExcName → Option Value} {mg mb : PySem.Str → Option Value} {dp un : Nat} {gd : Option (List Code)} {cn : PySem.Str} {cs : Scope} {a : Addr} {ccd : Value} {cl : List (PySem.Str × Addr)} {outer : List Env} {A₀ : Around} {base h₀ : Heap} {L : Addr} {m : PySem.Str → Option Value} {s : Shared} {Q E : Value → Shared → Prop} {t : Tok} {news : List (Addr × Obj)}
    (B : Below A₀ base outer h₀) (F : Fr h₀ L s.heap m) (X : (hd.heap_1 w.params).In h₀) (N : News h₀ L s.heap news) (T : Top topProg Lz mean mg mb h₀) (hk : cs.kind = .function) (hp : True) (hdp : dp + 2 < recursionLimit) (hun : un + 24 < cLine)
    (hret : ∀  (h' : Heap) (tk' : Nat), Fr h₀ L h' m → News h₀ L h' news → Q (.bool true) { s with heap := h', toks := tk' }) :
    wpAny (model PySem.Challenge.rw_nz0333_01.row.prog w) (ktrTop dp un gd cn cs L a ccd cl outer) (call (.ref 558) [.bytes [120].toArray t]) Q E s := by
  refine wpAny_call ?_
  k_dflt cell_enter
  k_steps
  refine compB_one true rfl (by k_asm) (by k_asm) ?_ ?_
  · intro u ys I oI C oC D m₂ h tk E' hC hx F' N'
    k_steps
    all_goals first | k_asm | decide
  · intro D h tk F' N' o1
    k_steps
    exact hret _ _ (by k_asm) (by walk_at "mine:kn")

theorem c_figures_of7 {w : World} {mean : ExcName → Option Value} {mg mb : PySem.Str → Option Value} {dp un : Nat} {gd : Option (List Code)} {cn : PySem.Str} {cs : Scope} {a : Addr} {ccd : Value} {cl : List (PySem.Str × Addr)} {outer : List Env} {A₀ : Around} {base h₀ : Heap} {L : Addr} {m : PySem.Str → Option Value} {s : Shared} {Q E : Value → Shared → Prop} {t : Tok} {news : List (Addr × Obj)}
    (B : Below A₀ base outer h₀) (F : Fr h₀ L s.heap m) (X : (hd.heap_1 w.params).In h₀) (N : News h₀ L s.heap news) (T : Top topProg Lz mean mg mb h₀) (hk : cs.kind = .function) (hp : True) (hdp : dp + 2 < recursionLimit) (hun : un + 24 < cLine)
    (hret : ∀ (t' : Tok) (h' : Heap) (tk' : Nat), Fr h₀ L h' m → News h₀ L h' news → Q (.bytes [55].toArray t') { s with heap := h', toks := tk' }) :
    wpAny (model PySem.Challenge.rw_nz0333_01.row.prog w) (ktrTop dp un gd cn cs L a ccd cl outer) (call (.ref 364) [.int 7 t]) Q E s := by
  refine wpAny_call ?_
  k_dflt cell_enter
  k_steps
  exact hret _ _ _ (by k_asm) (by walk_at "mine:kn")

theorem reg39 : True := by
  k_with "call ref" => (k_here; (with_reducible show wpAny _ _ (call (Value.ref 538) _) _ _ _); k_dflt (refine' c_plain7 ?k1 ?k2 ?k3 ?k4 ?k5 ?kK ?kp ?kd ?ku ?_; (case k1 => k_asm); (case k2 => k_asm); (case k3 => k_asm); (case k4 => k_asm); (case k5 => k_asm); (case kK => first | exact rfl | assumption); (case kp => first | assumption | exact ⟨by assumption, by omega, by assumption⟩); (case kd => ktr_room); (case ku => ktr_units); k_whole); intro _ _ _ _ _ _; (try dsimp only); (try k_fold))
  trivial
theorem reg40 : True := by
  k_with "call ref" => (k_here; (with_reducible show wpAny _ _ (call (Value.ref 558) [Value.bytes (List.toArray [120]) _]) _ _ _); k_dflt (refine' c_is_quotable1 ?k1 ?k2 ?k3 ?k4 ?k5 ?kK ?kp ?kd ?ku ?_; (case k1 => k_asm); (case k2 => k_asm); (case k3 => k_asm); (case k4 => k_asm); (case k5 => k_asm); (case kK => first | exact rfl | assumption); (case kp => trivial); (case kd => ktr_room); (case ku => ktr_units); k_whole); intro _ _ _ _; (try dsimp only); (try k_fold))
  trivial
theorem reg41 : True := by
  k_with "call ref" => (k_here; (with_reducible show wpAny _ _ (call (Value.ref 364) [Value.int 7 _]) _ _ _); k_dflt (refine' c_figures_of7 ?k1 ?k2 ?k3 ?k4 ?k5 ?kK ?kp ?kd ?ku ?_; (case k1 => k_asm); (case k2 => k_asm); (case k3 => k_asm); (case k4 => k_asm); (case k5 => k_asm); (case kK => first | exact rfl | assumption); (case kp => trivial); (case kd => ktr_room); (case ku => ktr_units); k_whole); intro _ _ _ _ _; (try dsimp only); (try k_fold))
  trivial
/-- every object of h is in h' and has the same dict there -/
def KeepD (h h' : Heap) : Prop := ∀ b o, h.get? b = some o → ∃ o', h'.get? b = some o' ∧ o'.dict = o.dict
theorem KeepD.refl (h : Heap) : KeepD h h := fun _ o e => ⟨o, e, rfl⟩
theorem KeepD.trans {h h' h'' : Heap} (x : KeepD h h') (y : KeepD h' h'') : KeepD h h'' := fun b o e => by
  obtain ⟨o', e', d'⟩ := x b o e
  obtain ⟨o'', e'', d''⟩ := y b o' e'
  exact ⟨o'', e'', d''.trans d'⟩
/-- the write leaves dict and life of any object be -/
def WriteD (f : Obj → Obj) : Prop := ∀ o, (f o).dict = o.dict ∧ (o.isFreed = false → (f o).isFreed = false)
theorem KeepD.update {h : Heap} {a : Addr} {f : Obj → Obj} (hf : WriteD f) : KeepD h (h.update a f) := fun b o e => by
  by_cases hb : a = b
  · subst hb
    exact ⟨f o, Heap.get?_update_self f e ((hf o).2 (Heap.get?_some_iff.mp e).2), (hf o).1⟩
  · exact ⟨o, by rw [Heap.get?_update_other _ _ hb]; exact e, rfl⟩
theorem KeepD.push' {h : Heap} {o : Obj} : KeepD h (h.push o) := fun b o' e => ⟨o', Heap.get?_push_of_some _ e, rfl⟩
/-- a tree without calls whose writes all leave the dicts be -/
noncomputable def KD {α : Type} : Sem α → Prop
  | .pure _ => True
  | .raise _ => True
  | .unsupported _ => True
  | .finish _ => True
  | .rule _ k => KD (k ())
  | .at _ k => KD (k ())
  | .load _ _ k => ∀ o, KD (k o)
  | .update _ _ f k => WriteD f ∧ KD (k ())
  | .alloc _ k => ∀ n, KD (k n)
  | .loadIfAlive _ k => ∀ o, KD (k o)
  | .point _ k => KD (k ())
  | .register _ _ => True
  | .fresh k => ∀ n, KD (k n)
  | .ask k => ∀ n, KD (k n)
  | .choose _ _ k => ∀ n, KD (k n)
  | .os _ _ k => ∀ n, KD (k n)
  | .call _ _ _ _ _ => False
  | .handled _ k => ∀ n, KD (k n)
  | .newGen _ k => ∀ n, KD (k n)
  | .genState _ k => ∀ n, KD (k n)
  | .resume _ _ _ _ => False
  | .yield _ _ _ _ => True
  | .stack k => ∀ n, KD (k n)
  | .fork _ _ => True
  | .thread k => ∀ n, KD (k n)
  | .await _ _ _ _ _ => True
theorem wp_kd {α : Type} {M : Model} {Γ : Ctx} (h₀ : Heap) : ∀ (t : Sem α) (Q : α → Pos → Shared → Prop) (E : Value → Pos → Shared → Prop) (p : Pos) (s : Shared), KD t → KeepD h₀ s.heap → Sem.wp M Γ t Q E p s →
    Sem.wp M Γ t (fun a p s' => Q a p s' ∧ KeepD h₀ s'.heap) (fun e p s' => E e p s' ∧ KeepD h₀ s'.heap) p s := by
  intro t
  induction t with
  | pure a => intro Q E p s _ hk h; exact ⟨h, hk⟩
  | raise e => intro Q E p s _ hk h; exact ⟨h, hk⟩
  | unsupported _ => intro Q E p s _ hk h; exact h
  | finish _ => intro Q E p s _ hk h; exact h
  | rule _ k ih => intro Q E p s d hk h; exact ih () Q E p s d hk h
  | «at» _ k ih => intro Q E p s d hk h; exact ih () Q E _ s d hk h
  | load a part k ih => intro Q E p s d hk h; obtain ⟨o, ho, h⟩ := h; exact ⟨o, ho, ih o Q E p s (d o) hk h⟩
  | update a part f k ih => intro Q E p s d hk h; exact ⟨h.1, ih () Q E p _ d.2 (hk.trans (KeepD.update d.1)) h.2⟩
  | alloc o k ih => intro Q E p s d hk h; exact ih _ Q E p _ (d _) (hk.trans (KeepD.push' (h := s.heap))) h
  | loadIfAlive a k ih => intro Q E p s d hk h; exact ih _ Q E p s (d _) hk h
  | point _ k ih => intro Q E p s d hk h; exact ih () Q E p s d hk h
  | register _ _ => intro Q E p s d hk h; exact h
  | fresh k ih => intro Q E p s d hk h; exact ih _ Q E p _ (d _) hk h
  | ask k ih => intro Q E p s d hk h; exact ih _ Q E p s (d _) hk h
  | choose src n k ih => intro Q E p s d hk h; exact ⟨h.1, ih _ Q E p _ (d _) hk h.2⟩
  | os _ _ k ih => intro Q E p s d hk h; exact ih _ Q E p _ (d _) hk h
  | call _ _ _ _ _ => intro Q E p s d hk h; exact d.elim
  | handled own k ih => intro Q E p s d hk h; exact ih _ Q E p s (d _) hk h
  | newGen _ k ih => intro Q E p s d hk h; exact ih _ Q E p _ (d _) hk h
  | genState _ k ih => intro Q E p s d hk h; obtain ⟨st, hs, h⟩ := h; exact ⟨st, hs, ih _ Q E p s (d _) hk h⟩
  | resume _ _ _ _ => intro Q E p s d hk h; exact d.elim
  | yield _ _ _ _ => intro Q E p s d hk h; exact h
  | stack k ih => intro Q E p s d hk h; exact ih _ Q E p s (d _) hk h
  | fork _ _ => intro Q E p s d hk h; exact h
  | thread k ih => intro Q E p s d hk h; exact ih _ Q E p s (d _) hk h
  | await _ _ _ _ _ => intro Q E p s d hk h; exact h
theorem wpAny_kd {α : Type} {M : Model} {A : Around} {t : Sem α} {Q : α → Shared → Prop} {E : Value → Shared → Prop} {s : Shared} (d : KD t) (h : wpAny M A t Q E s) :
    wpAny M A t (fun a s' => Q a s' ∧ KeepD s.heap s'.heap) (fun e s' => E e s' ∧ KeepD s.heap s'.heap) s :=
  fun Γ p hΓ => wp_kd s.heap t _ _ p s d (KeepD.refl _) (h Γ p hΓ)
theorem KD.bind {α β : Type} : ∀ {t : Sem α} {f : α → Sem β}, KD t → (∀ a, KD (f a)) → KD (t >>= f) := by
  intro t f
  show KD t → _ → KD (t.bind f)
  induction t with
  | pure a => intro _ h; exact h a
  | raise e => intro _ _; trivial
  | unsupported _ => intro _ _; trivial
  | finish _ => intro _ _; trivial
  | rule _ k ih => intro d h; exact ih () d h
  | «at» _ k ih => intro d h; exact ih () d h
  | load a part k ih => intro d h o; exact ih o (d o) h
  | update a part g k ih => intro d h; exact ⟨d.1, ih () d.2 h⟩
  | alloc o k ih => intro d h n; exact ih n (d n) h
  | loadIfAlive a k ih => intro d h n; exact ih n (d n) h
  | point _ k ih => intro d h; exact ih () d h
  | register _ _ => intro _ _; trivial
  | fresh k ih => intro d h n; exact ih n (d n) h
  | ask k ih => intro d h n; exact ih n (d n) h
  | choose src n k ih => intro d h n; exact ih n (d n) h
  | os _ _ k ih => intro d h n; exact ih n (d n) h
  | call _ _ _ _ _ => intro d _; exact d.elim
  | handled own k ih => intro d h n; exact ih n (d n) h
  | newGen _ k ih => intro d h n; exact ih n (d n) h
  | genState _ k ih => intro d h n; exact ih n (d n) h
  | resume _ _ _ _ => intro d _; exact d.elim
  | yield _ _ _ _ => intro _ _; trivial
  | stack k ih => intro d h n; exact ih n (d n) h
  | fork _ _ => intro _ _; trivial
  | thread k ih => intro d h n; exact ih n (d n) h
  | await _ _ _ _ _ => intro _ _; trivial
theorem KD.load {a : Addr} : KD (PySem.load a) := fun _ => trivial
theorem KD.fieldsOf {v : Value} : KD (PySem.fieldsOf v) := by
  unfold PySem.fieldsOf
  split
  · refine KD.bind KD.load fun o => ?_
    split <;> trivial
  · trivial
theorem KD.field {v : Value} {i : Nat} : KD (PySem.field v i) := by
  unfold PySem.field
  refine KD.bind KD.fieldsOf fun vs => ?_
  split <;> trivial
theorem WriteD.fields {f : Array Value → Array Value} : WriteD (Obj.mapFields f) := fun o => by
  obtain ⟨c, d, dt, sl⟩ := o
  cases dt <;> exact ⟨rfl, fun h => h⟩
theorem KD.setField {v x : Value} {i : Nat} : KD (PySem.setField v i x) := by
  unfold PySem.setField
  split
  · unfold PySem.updateField
    refine KD.bind KD.load fun o => ?_
    split
    · split
      · exact ⟨WriteD.fields, trivial⟩
      · trivial
    · trivial
  · trivial
theorem KD.setFlight {e : Value} {f : Option Addr} : KD (PySem.setFlight e f) := by
  unfold PySem.setFlight
  refine KD.bind KD.field fun tb => ?_
  split
  · exact KD.setField
  · trivial
theorem KD.readyFrames : ∀ l, KD (PySem.readyFrames l)
  | [] => trivial
  | env :: outer => by
    unfold PySem.readyFrames
    split
    · refine KD.bind KD.load fun o => ?_
      split
      · trivial
      · refine KD.bind ?_ fun im => KD.bind ?_ fun bk => KD.bind ?_ fun _ => KD.readyFrames outer
        · unfold PySem.behindIsImport
          split
          · trivial
          · split
            · trivial
            · exact KD.bind KD.field fun _ => trivial
        · unfold PySem.keptBack
          split
          · split
            · trivial
            · exact KD.bind (fun _ => trivial) fun _ => trivial
          · trivial
        · refine ⟨fun o => ⟨rfl, fun h => ?_⟩, trivial⟩
          obtain ⟨c, d, dt, sl⟩ := o
          cases dt <;> exact h
    · trivial
theorem KD.frameOf {env : Env} : KD (PySem.frameOf env) := by
  unfold PySem.frameOf
  refine KD.bind (fun _ => trivial) fun l => KD.bind ?_ fun r => ?_
  · unfold PySem.frameObject
    split
    · trivial
    · exact KD.bind (KD.readyFrames _) fun _ => trivial
  · split <;> trivial
theorem KD.ite {α : Type} {c : Prop} [Decidable c] {x y : Sem α} (hx : KD x) (hy : KD y) : KD (if c then x else y) := by split <;> assumption
theorem KD.entryPlaceOf {f : Addr} {b : Bool} : KD (PySem.entryPlaceOf f b) := by
  unfold PySem.entryPlaceOf
  refine KD.bind (fun _ => trivial) fun l => ?_
  split <;> trivial
theorem KD.newEntry {n f l g i : Value} {pl : List Value} : KD (PySem.EntryCells.newEntry n f l g i pl) := by
  unfold PySem.EntryCells.newEntry PySem.newFields PySem.newObj
  dsimp only
  unfold PySem.newObjAsIs
  refine KD.ite (KD.bind (t := PySem.unsupported _) trivial fun _ => ?_) ?_
  · exact KD.bind (t := PySem.alloc _) (fun _ => trivial) fun _ => trivial
  · exact KD.bind (t := PySem.alloc _) (fun _ => trivial) fun _ => trivial
theorem KD.noteFrame {e : Value} {env : Env} : KD (PySem.noteFrame e env) := by
  unfold PySem.noteFrame
  split
  · refine KD.bind KD.field fun head => ?_
    have jp : ∀ d : Addr, KD (do
      let a ← PySem.frameOf env
      let b ← PySem.entryPlaceOf d (head != Value.none)
      let c ← EntryCells.newEntry head a Value.none (rawInt ↑d) Value.none b
      PySem.setField e 1 c) := fun d => KD.bind KD.frameOf fun _ => KD.bind KD.entryPlaceOf fun _ => KD.bind KD.newEntry fun _ => KD.setField
    dsimp only
    split
    · refine KD.bind KD.field fun x => ?_
      split
      · trivial
      · exact KD.bind KD.setField fun _ => jp _
    · exact jp _
  · trivial
theorem KD.leaving {e : Value} {env : Env} : KD (PySem.leaving env e) := KD.bind KD.noteFrame fun _ => KD.setFlight

theorem off_lt {l : List (Addr × Obj)} {d : Addr} (h : ∀ p ∈ l, @LT.lt Nat instLTNat p.1 d) : ∀ p ∈ l, p.1 ≠ d := fun p hp => Nat.ne_of_lt (h p hp)
theorem off_cons {l : List (Addr × Obj)} {a d : Addr} {o : Obj} (h : @LT.lt Nat instLTNat d a) (hl : ∀ p ∈ l, p.1 ≠ d) : ∀ p ∈ (a, o) :: l, p.1 ≠ d := List.forall_mem_cons.mpr ⟨Nat.ne_of_gt h, hl⟩

theorem reg42 : True := by
  k_with "mine:k_offs" => first | assumption | exact off_lt (by assumption) | exact off_cons (by assumption) (by assumption)
  trivial
theorem reg43 : True := by
  k_with "mine:cell_in" => (refine' code_def ?k1 ?k2 ?k3 ?k4 ?k5 ?kA ?kF ?kK ?k6 ?k7 ?k8 ?k9 ?kB ?_ ?c2 ?c3 ?c4 ?c5; (case kA => exact rfl); (case kF => exact rfl); (case kK => assumption); (case k1 => k_asm); (case k2 => k_asm); (case k3 => k_asm); (case k4 => k_asm); (case k5 => k_asm); (case k6 => k_is); (case k7 => k_is); (case k8 => ktr_room); (case k9 => exact binds_K (by k_in) rfl (by k_is) rfl rfl rfl); (case c5 => decide); (case kB => exact locs rfl); (case c2 => exact rfl); (case c3 => exact rfl); (case c4 => exact rfl); k_whole; intro g' L' h' FG' F' N' B' X' T'; (try dsimp only); (try k_lift B'); (try k_fold))
  trivial
abbrev excO (t : Addr) (d : Option Addr) : Obj := { cls := .ref 107, dict := d, data := .fields #[.ref t, .none, .none, .none, .bool false, .none] }
abbrev tupO (vs : List Value) : Obj := { cls := .type "tuple", data := .seq vs.toArray }
abbrev exMro : List Value := [.ref 107, .ref 46, .type "Exception", .type "BaseException", .type "object"]
section
variable {w : World} {A : Around} {E : Value → Shared → Prop} {s : Shared} {h₀ : Heap} {L : Addr} {m : PySem.Str → Option Value} {news : List (Addr × Obj)} {e : Addr} {ox : Obj} {od : Option Obj}
theorem ex_cls (w : World) : ∃ cd, clsIn (hd.heap_1 w.params) 107 = some cd ∧ (cd.mro == exMro && cd.hasDict) = true := any_some (by kernel_rfl)
theorem ex_find_set (w : World) : findIn (hd.heap_1 w.params) (.ref 107) (Str.ofString "__setattr__") = some (some (.builtin "object.__setattr__")) := by kernel_rfl
theorem ex_sub (w : World) : mroIn (hd.heap_1 w.params) 107 (.type "object") = some true := by kernel_rfl
theorem ex_refuse (self : Value) : refuseLoop self "__setattr__" exMro = pure () := by
  rw [refuseLoop_ref, refuseLoop_ref]
  kernel_rfl
theorem ex_open {name : PySem.Str} {tk : Tok} {v : Value} {R : Result → Shared → Prop} (X : (hd.heap_1 w.params).In s.heap) (I : InstAt s.heap e ox 107 od) (hn : findIn (hd.heap_1 w.params) (.ref 107) name = some none)
    (h : wpAny (model PySem.Challenge.rw_nz0333_01.row.prog w) A.in1 (Builtin.ObjectAttr.storeInOwnDict (.ref e) (.ref 107) (.str name tk) name v false)
      (fun fin s' => match fin with | .done f => R (.ok f) s' | .again c' => c'.quiet = true ∧ codeAny (model PySem.Challenge.rw_nz0333_01.row.prog w) A c' R s') (fun e s' => R (.error e) s') s) :
    codeAny (model PySem.Challenge.rw_nz0333_01.row.prog w) A (.call (.builtin "object.__setattr__") ⟨[.ref e, .str name tk, v], []⟩) R s := by
  have SF := PySem.F.store_object
  obtain ⟨cd, hc, hcd⟩ := ex_cls w
  have ho : cd.mro = exMro := by simp at hcd; exact hcd.1
  have sub : Looks (model PySem.Challenge.rw_nz0333_01.row.prog w) s.heap (isInstance (.ref e) (.type "object")) true := I.type.andThen (looks_mroIn X (ex_sub w))
  refine codeAny_call_builtin SF.slot.plain SF.entry (@check_slot (model PySem.Challenge.rw_nz0333_01.row.prog w) _ _ s "object.__setattr__" "object" "__setattr__" (.ref e) [.str name tk, v] [] _ SF.kind SF.split sub (SF.args (.ref e) (.str name tk) v) ?_)
  have hm : Looks (model PySem.Challenge.rw_nz0333_01.row.prog w) s.heap (mroOf (.ref 107)) cd.mro := (looks_clsIn X hc).andThen .now
  rw [osa_eq, refuse_eq]
  refine wpAny_bind ?_
  refine wpAny_bind (I.type.here (wpAny_bind (hm.here ?_)))
  rw [ho, ex_refuse]
  refine wpAny_pure ?_
  refine wpAny_bind (I.type.here (wpAny_bind ((looks_findIn X hn).here (wpAny_bind ((Looks.now (a := none)).here ?_)))))
  exact h
theorem ex_set0 {t₀ : Addr} {rest : List (Addr × Obj)} {name : PySem.Str} {v : Value} {Q : Unit → Shared → Prop} (F : Fr h₀ L s.heap m) (N : News h₀ L s.heap ((e, excO t₀ none) :: rest)) (X₀ : (hd.heap_1 w.params).In h₀)
    (hoff : ∀ p ∈ rest, p.1 ≠ e) (hn : findIn (hd.heap_1 w.params) (.ref 107) name = some none)
    (h : ∀ dx h', Fr h₀ L h' m → News h₀ L h' ((e, excO t₀ (some dx)) :: (dx, dictOf [⟨PyData.keyHash w.params name, .str name (s.toks + 1), v⟩] 1) :: rest) → @LT.lt Nat instLTNat e dx → (∀ p ∈ rest, @LT.lt Nat instLTNat p.1 dx) → Q () { s with heap := h', toks := s.toks + 2 }) :
    wpAny (model PySem.Challenge.rw_nz0333_01.row.prog w) A (setAttr (.ref e) name v) Q E s := by
  have X := X₀.keeps F.keep
  have hx := (N _ (.head _)).1
  have I : InstAt s.heap e (excO t₀ none) 107 none := ⟨hx, rfl, rfl, trivial⟩
  refine set_plain X I (ex_find_set w) (ex_open (s := { s with toks := s.toks + 1 }) X I hn ?_)
  obtain ⟨cd, hc, hcd⟩ := ex_cls w
  have hhd : cd.hasDict = true := by simp at hcd; exact hcd.2
  have hes : e < s.heap.objs.size := Heap.lt_size hx
  have F1 := F.push emptyDict
  have N1 := N.push F emptyDict
  have hx1 : (s.heap.push emptyDict).get? e = some (excO t₀ none) := Heap.get?_push_of_some _ hx
  have hoff1 : ∀ p ∈ rest, @LT.lt Nat instLTNat p.1 s.heap.objs.size := fun p hp => Heap.lt_size (N p (.tail _ hp)).1
  obtain ⟨F2, N2⟩ := news_upd (pre := [(s.heap.objs.size, emptyDict)]) (f := fun o : Obj => { o with dict := some s.heap.objs.size }) F1 N1 (fun p hp => by rw [List.mem_singleton.mp hp]; exact Nat.ne_of_gt hes) hoff (o' := excO t₀ (some s.heap.objs.size)) rfl rfl
  obtain ⟨F3, N3⟩ := news_upd (pre := []) (d := s.heap.objs.size) (o := emptyDict) (post := (e, excO t₀ (some s.heap.objs.size)) :: rest) (f := Obj.putName name (PyData.keyHash w.params name) (.str name (s.toks + 1)) v) F2 N2 (fun p hp => nomatch hp)
    (fun p hp => by
      rcases List.mem_cons.mp hp with rfl | hp
      · exact Nat.ne_of_lt hes
      · exact Nat.ne_of_lt (hoff1 p hp)) (o' := dictOf [⟨PyData.keyHash w.params name, .str name (s.toks + 1), v⟩] 1) (putName_dict name _ _ v [] 0) rfl
  have D2 := (N2 (s.heap.objs.size, emptyDict) (.head _)).1
  have D3 := (N3 (s.heap.objs.size, _) (.head _)).1
  refine wpAny_bind ?_
  refine wpAny_pure ?_
  refine wpAny_bind ?_
  refine wpAny_bind ?_
  refine wpAny_loadPart hx ?_
  refine wpAny_bind (Looks.here (s := { s with toks := s.toks + 1 }) (looks_clsIn X hc) ?_)
  rw [hhd]
  refine wpAny_bind ?_
  refine wpAny_alloc ?_
  refine wpAny_bind ?_
  refine wpAny_update hx1 ?_
  refine wpAny_pure (a := some s.heap.objs.size) ?_
  refine wpAny_bind ?_
  refine wpAny_pure ?_
  refine wpAny_bind ?_
  unfold nsSet
  refine wpAny_bind ?_
  refine wpAny_bind ?_
  refine wpAny_askSetting ?_
  refine wpAny_pure ?_
  refine wpAny_bind ?_
  refine wpAny_mkText ?_
  refine wpAny_bind ?_
  refine wpAny_loadPart D2 ?_
  refine wpAny_updatePart D2 ?_
  refine wpAny_bind ?_
  refine wpAny_lookBehind D3 (by first | rfl | exact pastItsLine_dict (by simp)) ?_
  refine wpAny_pure (h s.heap.objs.size _ F3 (fun p hp => ?_) hes hoff1)
  rcases List.mem_cons.mp hp with rfl | hp
  · exact N3 _ (.tail _ (.head _))
  · rcases List.mem_cons.mp hp with rfl | hp
    · exact N3 _ (.head _)
    · exact N3 _ (.tail _ (.tail _ hp))
theorem ex_set1 {t₀ dx : Addr} {rest : List (Addr × Obj)} {hw : Int} {kw : Tok} {vw v : Value} {Q : Unit → Shared → Prop} (F : Fr h₀ L s.heap m) (N : News h₀ L s.heap ((e, excO t₀ (some dx)) :: (dx, dictOf [⟨hw, .str (Str.ofString "what") kw, vw⟩] 1) :: rest)) (X₀ : (hd.heap_1 w.params).In h₀)
    (hne : @LT.lt Nat instLTNat e dx) (hoff : ∀ p ∈ rest, p.1 ≠ dx) (hn : findIn (hd.heap_1 w.params) (.ref 107) (Str.ofString "at") = some none)
    (h : ∀ h', Fr h₀ L h' m → News h₀ L h' ((e, excO t₀ (some dx)) :: (dx, dictOf [⟨hw, .str (Str.ofString "what") kw, vw⟩, ⟨PyData.keyHash w.params (Str.ofString "at"), .str (Str.ofString "at") (s.toks + 1), v⟩] 2) :: rest) → Q () { s with heap := h', toks := s.toks + 2 }) :
    wpAny (model PySem.Challenge.rw_nz0333_01.row.prog w) A (setAttr (.ref e) (Str.ofString "at") v) Q E s := by
  have X := X₀.keeps F.keep
  have hx := (N _ (.head _)).1
  have D := (N _ (.tail _ (.head _))).1
  have I : InstAt s.heap e (excO t₀ (some dx)) 107 (some (dictOf [⟨hw, .str (Str.ofString "what") kw, vw⟩] 1)) := ⟨hx, rfl, rfl, D⟩
  refine set_plain X I (ex_find_set w) (ex_open (s := { s with toks := s.toks + 1 }) X I hn ?_)
  obtain ⟨cd, hc, hcd⟩ := ex_cls w
  have hhd : cd.hasDict = true := by simp at hcd; exact hcd.2
  obtain ⟨F3, N3⟩ := news_upd (pre := [(e, excO t₀ (some dx))]) (f := Obj.putName (Str.ofString "at") (PyData.keyHash w.params (Str.ofString "at")) (.str (Str.ofString "at") (s.toks + 1)) v) F N (fun p hp => by rw [List.mem_singleton.mp hp]; exact Nat.ne_of_lt hne)
    hoff (o' := dictOf [⟨hw, .str (Str.ofString "what") kw, vw⟩, ⟨PyData.keyHash w.params (Str.ofString "at"), .str (Str.ofString "at") (s.toks + 1), v⟩] 2) (putName_dict _ _ _ v _ 1) rfl
  have D3 := (N3 (dx, _) (.tail _ (.head _))).1
  refine wpAny_bind ?_
  refine wpAny_pure ?_
  refine wpAny_bind ?_
  refine wpAny_bind ?_
  refine wpAny_loadPart hx ?_
  refine wpAny_bind (Looks.here (s := { s with toks := s.toks + 1 }) (looks_clsIn X hc) ?_)
  rw [hhd]
  refine wpAny_pure (a := some dx) ?_
  refine wpAny_bind ?_
  refine wpAny_pure ?_
  refine wpAny_bind ?_
  unfold nsSet
  refine wpAny_bind ?_
  refine wpAny_bind ?_
  refine wpAny_askSetting ?_
  refine wpAny_pure ?_
  refine wpAny_bind ?_
  refine wpAny_mkText ?_
  refine wpAny_bind ?_
  refine wpAny_loadPart D ?_
  refine wpAny_updatePart D ?_
  refine wpAny_bind ?_
  refine wpAny_lookBehind D3 (by first | rfl | exact pastItsLine_dict (by simp)) ?_
  exact wpAny_pure (h _ F3 N3)
theorem ex_base (w : World) : mroIn (hd.heap_1 w.params) 107 (.type "Exception") = some true := by kernel_rfl
theorem ex_obj {h : Heap} (X : (hd.heap_1 w.params).In h) : ∃ c d cd sl, h.get? 107 = some ⟨c, d, .cls cd, sl⟩ := by
  obtain ⟨⟨c, d, dt, sl⟩, ho, hd'⟩ := any_some (show ((hd.heap_1 w.params).lookup 107).any (fun o => match o.data with | .cls _ => true | _ => false) = true from by kernel_rfl)
  cases dt <;> first | exact ⟨c, d, _, sl, X _ _ ho⟩ | cases hd'
theorem ex_check {v : Value} {Q : Unit → Shared → Prop} (X : (hd.heap_1 w.params).In s.heap) (hx : s.heap.get? e = some ox) (hcl : ox.cls = .ref 107) (sub : Looks (model PySem.Challenge.rw_nz0333_01.row.prog w) s.heap (isInstance (.ref e) (.type "Exception")) true) (hq : Q () s) :
    wpAny (model PySem.Challenge.rw_nz0333_01.row.prog w) A (checkBuiltinCall "Exception.__init__" ⟨[.ref e, v], []⟩) Q E s := by
  have FB := PySem.F.excBase_Exception
  have hshort := FB.noStar
  obtain ⟨c, d, cd, sl, hC⟩ := ex_obj X
  obtain ⟨hp, g, dr, t, os⟩ := s
  simp only [checkBuiltinCall, FB.initKind, FB.initSplit, FB.initRow]
  refine wpAny_bind (sub.here ?_)
  repeat (first | (with_reducible refine wpAny_loadPart_at hx ?_; rw [hcl]) | with_reducible refine wpAny_loadPart_at hC ?_ | wp_step)
  exact hq
theorem ex_init {t₀ : Addr} {rest : List (Addr × Obj)} {v : Value} {Q : Value → Shared → Prop} (F : Fr h₀ L s.heap m) (N : News h₀ L s.heap ((e, excO t₀ none) :: rest)) (X₀ : (hd.heap_1 w.params).In h₀) (hoff : ∀ p ∈ rest, p.1 ≠ e)
    (h : ∀ t₁ h', Fr h₀ L h' m → News h₀ L h' ((e, excO t₁ none) :: (t₁, tupO [v]) :: rest) → @LT.lt Nat instLTNat e t₁ → (∀ p ∈ rest, @LT.lt Nat instLTNat p.1 t₁) → Q .none { s with heap := h' }) :
    wpAny (model PySem.Challenge.rw_nz0333_01.row.prog w) A (call (.builtin "Exception.__init__") [.ref e, v]) Q E s := by
  have X := X₀.keeps F.keep
  have hx := (N _ (.head _)).1
  have I : InstAt s.heap e (excO t₀ none) 107 none := ⟨hx, rfl, rfl, trivial⟩
  have FB := PySem.F.excBase_Exception
  have hes : e < s.heap.objs.size := Heap.lt_size hx
  have sub : Looks (model PySem.Challenge.rw_nz0333_01.row.prog w) s.heap (isInstance (.ref e) (.type "Exception")) true := I.type.andThen (looks_mroIn X (ex_base w))
  have F1 := F.push (tupO [v])
  have N1 := N.push F (tupO [v])
  have he₁ : (s.heap.push (tupO [v])).get? e = some (excO t₀ none) := Heap.get?_push_of_some _ hx
  obtain ⟨F2, N2⟩ := news_upd (pre := [(s.heap.objs.size, tupO [v])]) (f := Obj.mapFields (·.setIfInBounds 0 (.ref s.heap.objs.size))) F1 N1 (fun p hp => by rw [List.mem_singleton.mp hp]; exact Nat.ne_of_gt hes) hoff (o' := excO s.heap.objs.size none) rfl rfl
  refine wpAny_call (codeAny_call_builtin FB.init.plain FB.initEntry (ex_check X hx rfl sub ?_))
  unfold Builtin.«BaseException.__init__»
  dsimp only
  rw [if_neg (by simp)]
  unfold newTuple Builtin.BaseException.bexcPut
  refine wpAny_bind (wpAny_newObj_type (wpAny_bind (wpAny_bind (wpAny_field he₁ rfl rfl (wpAny_bind (wpAny_setField he₁ rfl (by simp) ?_))))) (by size_fits))
  refine wpAny_letGo (wpAny_pure (h s.heap.objs.size _ F2 (fun p hp => ?_) hes fun p hp => Heap.lt_size (N p (.tail _ hp)).1))
  rcases List.mem_cons.mp hp with rfl | hp
  · exact N2 _ (.tail _ (.head _))
  · rcases List.mem_cons.mp hp with rfl | hp
    · exact N2 _ (.head _)
    · exact N2 _ (.tail _ (.tail _ hp))
end

theorem ex_meta : typeOf (.type "Exception") = pure (.type "type") := kitMeta_of (by decide +kernel)
theorem ex_stub : Manifest.isStub "Exception" = false := by decide +kernel
theorem ex_handed : handedIn (.builtin "Exception.__init__") = true := by decide +kernel

section
local macro_rules | `(tactic| walk_at "getMethod type:Exception") => `(tactic| (k_here; (with_reducible show wpAny _ _ (getMethod (Value.type "Exception") _ _) _ _ _); k_dflt (refine' method_type ?F ?X ?a ?b ?e ?c ?_; (case a => exact ex_meta); (case b => exact ex_stub); (case c => exact ex_handed); (case F => k_asm); (case X => k_asm); (case e => k_is); k_whole)))
local macro_rules | `(tactic| walk_at "call builtin:Exception.__init__") => `(tactic| (k_here; k_dflt (refine' ex_init ?F ?N ?X ?o ?_; (case F => k_asm); (case N => k_asm); (case X => k_asm); (case o => first | assumption | walk_at "mine:k_offs"); k_whole); intro t9 h9 F9 N9 l9 o9))
local macro_rules | `(tactic| walk_at "setAttr ref") => `(tactic| (k_here; k_dflt (refine' ex_set0 ?F ?N ?X ?o ?n ?_; (case F => k_asm); (case N => k_asm); (case X => k_asm); (case o => (walk_at "mine:k_offs")); (case n => k_is); k_whole); intro d9 h9 F9 N9 l9 o9))
local macro_rules | `(tactic| walk_at "setAttr ref") => `(tactic| (k_here; k_dflt (refine' ex_set1 ?F ?N ?X ?l ?o ?n ?_; (case F => k_asm); (case N => k_asm); (case X => k_asm); (case l => assumption); (case o => (walk_at "mine:k_offs")); (case n => k_is); k_whole); intro h9 F9 N9))
abbrev exD (P : Params) (what : PySem.Str) (tw : Tok) (k : Int) (ta k1 k2 : Tok) : Obj :=
  dictOf [⟨PyData.keyHash P (Str.ofString "what"), .str (Str.ofString "what") k1, .str what tw⟩, ⟨PyData.keyHash P (Str.ofString "at"), .str (Str.ofString "at") k2, .int k ta⟩] 2

theorem c_excinit {w : World} {mean : ExcName → Option Value} {mg mb : PySem.Str → Option Value} {dp un : Nat} {gd : Option (List Code)} {cn : PySem.Str} {cs : Scope} {a : Addr} {ccd : Value} {cl : List (PySem.Str × Addr)} {outer : List Env} {A₀ : Around} {base h₀ : Heap} {L : Addr} {m : PySem.Str → Option Value} {s : Shared} {Q E : Value → Shared → Prop} {e t : Addr} {what : PySem.Str} {tw ta : Tok} {k : Int} {vs : List Value} {news : List (Addr × Obj)}
    (B : Below A₀ base outer h₀) (F : Fr h₀ L s.heap m) (X : (hd.heap_1 w.params).In h₀) (N : News h₀ L s.heap ((e, excO t none) :: (t, tupO vs) :: news)) (T : Top topProg Lz mean mg mb h₀) (hk : cs.kind = .function) (hp : @LT.lt Nat instLTNat t e ∧ ∀ p ∈ news, @LT.lt Nat instLTNat p.1 t) (hdp : dp + 1 < recursionLimit) (hun : un + 8 < cLine)
    (hret : ∀ (t₁ dx : Addr) (k1 k2 : Tok) (h' : Heap) (tk' : Nat), @LT.lt Nat instLTNat e t₁ → @LT.lt Nat instLTNat e dx → Fr h₀ L h' m → News h₀ L h' ((e, excO t₁ (some dx)) :: (dx, exD w.params what tw k ta k1 k2) :: (t₁, tupO [.str what tw]) :: (t, tupO vs) :: news) → Q (.none) { s with heap := h', toks := tk' }) :
    wpAny (model PySem.Challenge.rw_nz0333_01.row.prog w) (ktrTop dp un gd cn cs L a ccd cl outer) (call (.ref 36) [.ref e, .str what tw, .int k ta]) Q E s := by
  obtain ⟨hte, hnt⟩ := hp
  have hoff : ∀ p ∈ (t, tupO vs) :: news, p.1 ≠ e := fun p hp => by
    rcases List.mem_cons.mp hp with rfl | hp
    · exact Nat.ne_of_lt hte
    · exact Nat.ne_of_lt (Nat.lt_trans (hnt p hp) hte)
  refine wpAny_call ?_
  k_dflt walk_at "mine:cell_in"
  k_steps
  refine' hret _ _ _ _ _ _ ?pa ?pb ?pc ?pd
  case pd => walk_at "mine:kn"
  case pc => k_asm
  all_goals assumption

end
def exOk (K : Frag) : Bool := match K.lookup 107 with
  | some ⟨.type "type", _, .cls cd, sl⟩ => (match sl.toList with
    | [_, _, _, _, some (.builtin n), _] => cd.mro == exMro && n == "Exception.__new__" && !cd.hasDel && cd.ns == 106
    | _ => false)
  | _ => false
def ExCls (h : Heap) : Prop := ∃ nm q bs hdct sn sub ab col dd k0 k1 k2 k3 k5, h.get? 107 = some (excClassObj nm q 107 106 bs [.ref 46, .type "Exception", .type "BaseException", .type "object"] hdct sn sub ab col dd k0 k1 k2 k3 k5 "Exception.__new__")
theorem exCls_of {K : Frag} {h : Heap} (X : K.In h) (q : exOk K = true) : ExCls h := by
  unfold exOk at q
  split at q
  · rename_i dd cd sl ho
    split at q
    · rename_i k0 k1 k2 k3 n k5 hs
      simp only [Bool.and_eq_true, beq_iff_eq, Bool.not_eq_true'] at q
      obtain ⟨⟨⟨hm, rfl⟩, hdel⟩, hN⟩ := q
      obtain ⟨nm, bs, mro, ns, qn, hd', sn, sub, ab, col, del⟩ := cd
      dsimp only at hm hdel hN
      subst hm hdel hN
      have hsl : sl = #[k0, k1, k2, k3, some (.builtin "Exception.__new__"), k5] := by
        obtain ⟨l⟩ := sl
        simp only at hs
        rw [hs]
      subst hsl
      exact ⟨nm, qn, bs, hd', sn, sub, ab, col, dd, k0, k1, k2, k3, k5, X _ _ ho⟩
    · cases q
  · cases q
theorem ex_ok (w : World) : exOk (hd.heap_1 w.params) = true := by kernel_rfl
theorem ex_has_B : ([Value.ref 107, .ref 46, .type "Exception", .type "BaseException", .type "object"]).contains (.type "Exception") = true := by decide
theorem ex_has_A : ([Value.ref 107, .ref 46, .type "Exception", .type "BaseException", .type "object"]).contains (.type "AttributeError") = false := by decide
theorem ex_has_N : ([Value.ref 107, .ref 46, .type "Exception", .type "BaseException", .type "object"]).contains (.type "NameError") = false := by decide
section
variable {w : World} {A : Around} {E : Value → Shared → Prop} {h : Heap} {g : Array GenState} {d : Drawn} {t : Nat} {os : OsState}
theorem ex_check_new {rest : List Value} {Q : Unit → Shared → Prop} (C : ExCls h) (hq : Q () ⟨h, g, d, t, os⟩) :
    wpAny (model PySem.Challenge.rw_nz0333_01.row.prog w) A (checkBuiltinCall "Exception.__new__" ⟨.ref 107 :: rest, []⟩) Q E ⟨h, g, d, t, os⟩ := by
  obtain ⟨nm, q, bs, hdct, sn, sub, ab, col, dd, k0, k1, k2, k3, k5, hC⟩ := C
  have FB := PySem.F.excBase_Exception
  have hstar := FB.noStar
  simp only [checkBuiltinCall, FB.newKind, FB.newSplit, FB.newRow]
  repeat (first | refine wpAny_loadPart_at hC ?_ | (refine wpAny_isSubtype_exc hC ?_; rw [ex_has_B]) | refine wpAny_staticBase_exc hC ?_ | refine wpAny_madeBy_exc hC ?_ | simp only [bne_self_eq_false, Bool.false_eq_true, if_false] | wp_step)
  exact hq
theorem ex_new {rest : List Value} {R : Result → Shared → Prop} (C : ExCls h) (hl : rest.length ≤ sizeLine) (hq : R (.ok (.ret (.ref (h.objs.size + 1)))) ⟨(h.push (tupO rest)).push (excO h.objs.size none), g, d, t, os⟩) :
    codeAny (model PySem.Challenge.rw_nz0333_01.row.prog w) A (.builtin "Exception.__new__" ⟨.ref 107 :: rest, []⟩) R ⟨h, g, d, t, os⟩ := by
  obtain ⟨nm, q, bs, hdct, sn, sub, ab, col, dd, k0, k1, k2, k3, k5, hC⟩ := C
  have FB := PySem.F.excBase_Exception
  have hends := FB.ends
  refine codeAny_builtinAt FB.entry ?_
  unfold Builtin.«BaseException.__new__»
  refine PySem.wpAt_bind ?_
  show PySem.wpAt _ _ _ (stack >>= _) _ _ _
  refine PySem.wpAt_bind (PySem.wpAt_stack fun p below => PySem.wpAt_of_wpAny ?_)
  wp_walk
  refine PySem.wpAt_of_wpAny ?_
  rw [FB.owner]
  repeat (first | with_reducible refine wpAny_madeHere_exc FB.canon hC ?_ | with_reducible refine wpAny_loadPart_at hC ?_ | (with_reducible refine wpAny_isSubtype_exc hC ?_; first | rw [ex_has_B] | rw [ex_has_A] | rw [ex_has_N]) | wp_step)
  show R _ _
  rw [Heap.size_push]
  exact hq
theorem ex_find_init (w : World) : findIn (hd.heap_1 w.params) (.ref 107) (Str.ofString "__init__") = some (some (.ref 36)) := by kernel_rfl
theorem ex_fn (w : World) : typeIn (hd.heap_1 w.params) (.ref 36) = some (.type "function") := by kernel_rfl
theorem ex_type_call {rest : List Value} {Q : Fin → Shared → Prop} (X : (hd.heap_1 w.params).In h) (hl : rest.length ≤ sizeLine)
    (hq : wpAny (model PySem.Challenge.rw_nz0333_01.row.prog w) A (call (.ref 36) (.ref (h.objs.size + 1) :: rest)) (fun r s' => r = .none ∧ Q (.done (.ret (.ref (h.objs.size + 1)))) s') E ⟨(h.push (tupO rest)).push (excO h.objs.size none), g, d, t, os⟩) :
    wpAny (model PySem.Challenge.rw_nz0333_01.row.prog w) A (Builtin.«type.__call__» ⟨.ref 107 :: rest, []⟩) Q E ⟨h, g, d, t, os⟩ := by
  have FB := PySem.F.excBase_Exception
  have C := exCls_of X (ex_ok w)
  obtain ⟨nm, q, bs, hdct, sn, sub, ab, col, dd, k0, k1, k2, k3, k5, hC⟩ := id C
  repeat (first | with_reducible refine wpAny_loadPart_at hC ?_ | with_reducible refine wpAny_madeBy_exc hC ?_ | wp_step)
  refine codeAny_call_builtin_code (Code.quiet_builtin _ FB.quiet) (ex_check_new C ?_)
  refine ex_new C hl ?_
  show wpAny _ _ _ _ _ _
  have X2 : (hd.heap_1 w.params).In ((h.push (tupO rest)).push (excO h.objs.size none)) := X.keeps fun b o e => Heap.get?_push_of_some _ (Heap.get?_push_of_some _ e)
  have hget : ((h.push (tupO rest)).push (excO h.objs.size none)).get? (h.objs.size + 1) = some (excO h.objs.size none) := by heap_get
  have I : InstAt ((h.push (tupO rest)).push (excO h.objs.size none)) (h.objs.size + 1) (excO h.objs.size none) 107 none := ⟨hget, rfl, rfl, trivial⟩
  have sub1 : Looks (model PySem.Challenge.rw_nz0333_01.row.prog w) ((h.push (tupO rest)).push (excO h.objs.size none)) (isInstance (.ref (h.objs.size + 1)) (.ref 107)) true := I.type.andThen (looks_mroIn X2 (show mroIn (hd.heap_1 w.params) 107 (.ref 107) = some true from by kernel_rfl))
  refine wpAny_bind (Looks.here (s := ⟨_, g, d, t, os⟩) sub1 ?_)
  rw [if_neg (by decide)]
  refine wpAny_bind (wpAny_holding (special_fn (s := ⟨_, g, d, t, os⟩) X2 I (ex_find_init w) (ex_fn w) (wpAny_mono hq (fun r s' hr => ?_) fun _ _ z => z)))
  obtain ⟨rfl, hQ⟩ := hr
  wp_walk
  exact hQ
theorem ex_call {rest : List Value} {Q : Value → Shared → Prop} (X : (hd.heap_1 w.params).In h) (hl : rest.length ≤ sizeLine)
    (hq : wpAny (model PySem.Challenge.rw_nz0333_01.row.prog w) (A.under (.builtin "type.__call__" ⟨.ref 107 :: rest, []⟩)) (call (.ref 36) (.ref (h.objs.size + 1) :: rest)) (fun r s' => r = .none ∧ Q (.ref (h.objs.size + 1)) s') E ⟨(h.push (tupO rest)).push (excO h.objs.size none), g, d, t, os⟩) :
    wpAny (model PySem.Challenge.rw_nz0333_01.row.prog w) A (call (.ref 107) rest) Q E ⟨h, g, d, t, os⟩ := by
  have C := exCls_of X (ex_ok w)
  obtain ⟨nm, q, bs, hdct, sn, sub, ab, col, dd, k0, k1, k2, k3, k5, hC⟩ := id C
  have f1 := tc_lookup
  have f2 := tc_bind (.ref 107)
  have hT : (⟨h, g, d, t, os⟩ : Shared).TypeIs (.ref 107) "type" := ⟨_, hC, rfl⟩
  refine wpAny_call (codeAny_of_tree ?_)
  show wpAny _ _ (callAny (.ref 107) _) _ _ _
  repeat (any_goals (first | assumption | with_reducible refine wpAny_loadPart_at hC ?_ | wp_step))
  refine ⟨rfl, ?_⟩
  refine codeAny_call_builtin_at (Code.quiet_builtin _ (by decide +kernel)) entry_typeCall (wpAny_check_type_call_sub hC (ex_type_call X hl hq))
end

theorem ktr_make {dp un : Nat} {gd : Option (List Code)} {cn : PySem.Str} {cs : Scope} {L a : Addr} {ccd : Value} {cl : List (PySem.Str × Addr)} {outer : List Env} {C : Addr} {rest : List Value} :
    (ktrTop dp un gd cn cs L a ccd cl outer).under (.builtin "type.__call__" ⟨.ref C :: rest, []⟩) = ktrTop (dp + 1) (un + 1) gd cn cs L a ccd cl outer := by
  cases gd <;> rfl

theorem c_fault {w : World} {mean : ExcName → Option Value} {mg mb : PySem.Str → Option Value} {dp un : Nat} {gd : Option (List Code)} {cn : PySem.Str} {cs : Scope} {a : Addr} {ccd : Value} {cl : List (PySem.Str × Addr)} {outer : List Env} {A₀ : Around} {base h₀ : Heap} {L : Addr} {m : PySem.Str → Option Value} {s : Shared} {Q E : Value → Shared → Prop} {what : PySem.Str} {tw ta : Tok} {k : Int} {news : List (Addr × Obj)}
    (B : Below A₀ base outer h₀) (F : Fr h₀ L s.heap m) (X : (hd.heap_1 w.params).In h₀) (N : News h₀ L s.heap news) (T : Top topProg Lz mean mg mb h₀) (hk : cs.kind = .function) (hp : True) (hdp : dp + 2 < recursionLimit) (hun : un + 16 < cLine)
    (hret : ∀ (e t t₁ dx : Addr) (k1 k2 : Tok) (h' : Heap) (tk' : Nat), (∀ p ∈ (dx, exD w.params what tw k ta k1 k2) :: (t₁, tupO [.str what tw]) :: (t, tupO [.str what tw, .int k ta]) :: news, p.1 ≠ e) → Fr h₀ L h' m → News h₀ L h' ((e, excO t₁ (some dx)) :: (dx, exD w.params what tw k ta k1 k2) :: (t₁, tupO [.str what tw]) :: (t, tupO [.str what tw, .int k ta]) :: news) → Q (.ref e) { s with heap := h', toks := tk' }) :
    wpAny (model PySem.Challenge.rw_nz0333_01.row.prog w) (ktrTop dp un gd cn cs L a ccd cl outer) (call (.ref 107) [.str what tw, .int k ta]) Q E s := by
  obtain ⟨hh, g, d, tk, os⟩ := s
  refine ex_call (X.keeps F.keep) (show 2 ≤ sizeLine by decide) ?_
  rw [ktr_make]
  have N2 := (N.push F (tupO [.str what tw, .int k ta])).push (F.push _) (excO hh.objs.size none)
  rw [Heap.size_push] at N2
  refine c_excinit B ((F.push _).push _) X N2 T hk ⟨Nat.lt_succ_self _, fun p hp => Heap.lt_size (N p hp).1⟩ (by omega) (by omega) ?_
  intro t₁ dx k1 k2 h' tk' l1 l2 F' N'
  exact ⟨rfl, hret _ _ _ _ _ _ _ _ (off_cons l2 (off_cons l1 (List.forall_mem_cons.mpr ⟨Nat.ne_of_lt (Nat.lt_succ_self _), fun p hp => Nat.ne_of_lt (Nat.lt_succ_of_lt (Heap.lt_size (N p hp).1))⟩))) F' N'⟩

/-- the object e is there and its dict is dx -/
def HasD (dx e : Addr) (h : Heap) : Prop := ∃ o, h.get? e = some o ∧ o.dict = some dx
theorem HasD.keep {dx e : Addr} {h h' : Heap} (x : HasD dx e h) (k : KeepD h h') : HasD dx e h' := by
  obtain ⟨o, e1, e2⟩ := x
  obtain ⟨o', e3, e4⟩ := k e o e1
  exact ⟨o', e3, e4.trans e2⟩

theorem reg44 : True := by
  k_with "call ref" => (k_here; (with_reducible show wpAny _ _ (call (Value.ref 107) _) _ _ _); k_dflt (refine' c_fault ?k1 ?k2 ?k3 ?k4 ?k5 ?kK ?kp ?kd ?ku ?_; (case k1 => k_asm); (case k2 => k_asm); (case k3 => k_asm); (case k4 => k_asm); (case k5 => k_asm); (case kK => first | exact rfl | assumption); (case kp => trivial); (case kd => ktr_room); (case ku => ktr_units); k_whole); intro _ _ _ _ _ _ _ _ _ _ _; (try dsimp only); (try k_fold))
  trivial
def RaiseX (E : Value → Shared → Prop) (v : Value) (s₁ : Shared) : Prop := ∃ a t d, v = .ref a ∧ ExCls s₁.heap ∧ s₁.heap.get? a = some (excO t d) ∧ E (.ref a) s₁
theorem Raise_ex {prog : Program} {w : World} {A : Around} {E : Value → Shared → Prop} {s : Shared} {env : Env} {e : PySem.Expr} {pos : Pos} {Q : Flow → Shared → Prop} (hh : A.handled = none)
    (h : wpAny (model prog w) A (eval e env) (RaiseX E) E s) : wpAny (model prog w) A (exec (.Raise (some e) none pos) env) Q E s := by
  show wpAny _ A (do standAt pos; raiseStmt env (some (do let v ← eval e env; standAt pos; pure v)) none) Q E s
  refine wpAny_bind ?_
  refine wpAny_standAt ?_
  unfold raiseStmt
  dsimp only
  refine wpAny_bind (wpAny_bind (wpAny_mono h (fun v s₁ h₁ => wpAny_bind (wpAny_standAt (wpAny_pure ?_))) fun _ _ x => x))
  obtain ⟨a, t, dd0, rfl, C, ha, hE⟩ := h₁
  obtain ⟨nm, q, bs, hdct, sn, sub, ab, col, dd, k0, k1, k2, k3, k5, hC⟩ := C
  obtain ⟨hp, g, d, tk, os⟩ := s₁
  have hcB : ([Value.ref 107, .ref 46, .type "Exception", .type "BaseException", .type "object"]).contains (.type "BaseException") = true := by decide
  repeat (first | with_reducible refine wpAny_loadPart_at ha ?_ | with_reducible refine wpAny_loadPart_at hC ?_ | (with_reducible refine wpAny_isSubtype_exc hC ?_; rw [hcB]) | wp_step)
  exact wpAny_raiseNew_none hh hE
/-- the exception e is under way; the rest of the ledger stands; its dict is dx -/
def FlyD (base G : Heap) (l : List Env) (e dx : Addr) (a0 : Value) (news : List (Addr × Obj)) (h : Heap) : Prop :=
  (∃ B, base.StaysIn B ∧ (∀ b o, G.get? b = some o → b ∉ l.filterMap (·.frame) → B.get? b = some o) ∧ (∀ q ∈ news, B.get? q.1 = some q.2 ∧ G.get? q.1 = none ∧ base.get? q.1 = none) ∧ Heap.FlyingW B l e (.ref 107) a0 h) ∧ HasD dx e h
section
variable {M : Model} {A : Around} {E : Value → Shared → Prop} {s' : Shared} {base g g₂ : Heap} {outer : List Env} {L a e t₁ dx : Addr} {m : PySem.Str → Option Value} {name : PySem.Str} {scope : Scope} {cd : Value} {Q : Unit → Shared → Prop} {news : List (Addr × Obj)}
theorem leave_raiseX (K : Below A base outer g) (F : Fr g L s'.heap m) (N : News g L s'.heap ((e, excO t₁ (some dx)) :: news)) (hoff : ∀ q ∈ news, q.1 ≠ e)
    (hQ : ∀ h', FlyD base g outer e dx (.ref t₁) news h' → g.UpToSlots h' → Q () { s' with heap := h' }) (hk : scope.kind = .function := by rfl) :
    wpAny M (A.deeper (envOf name scope L a cd)) (leaving (envOf name scope L a cd) (.ref e)) Q E s' := by
  have K' := K.push (name := name) (a := a) (cd := cd) F hk
  have hin : ∀ env ∈ (envOf name scope L a cd :: outer), ∀ b, env.frame = some b → b ∈ e :: (envOf name scope L a cd :: outer).filterMap (·.frame) := fun env he b hb => .tail _ (List.mem_filterMap.mpr ⟨env, he, hb⟩)
  have hx := (N _ (.head _)).1
  have hge : base.get? e = none := fresh_of_stays K.stays (N _ (.head _)).2.2
  have st : base.StaysIn (hideAll s'.heap (e :: (envOf name scope L a cd :: outer).filterMap (·.frame))) := fun b o q => hideAll_get _ (K'.stays b o q) fun hm => by
    rcases List.mem_cons.mp hm with rfl | hm
    · rw [hge] at q; cases q
    · rw [(K'.frames.mem hm).1] at q; cases q
  have hl : ∀ q ∈ news, (hideAll s'.heap (e :: (envOf name scope L a cd :: outer).filterMap (·.frame))).get? q.1 = some q.2 ∧ g.get? q.1 = none ∧ base.get? q.1 = none := fun q hq => by
    refine ⟨hideAll_get _ (N q (.tail _ hq)).1 fun hm => ?_, (N q (.tail _ hq)).2.2, fresh_of_stays K.stays (N q (.tail _ hq)).2.2⟩
    rcases List.mem_cons.mp hm with hm | hm
    · exact hoff q hq hm
    obtain ⟨env, he, hf⟩ := List.mem_filterMap.mp hm
    rcases List.mem_cons.mp he with rfl | he
    · exact (N q (.tail _ hq)).2.1 (Option.some.inj hf).symm
    · obtain ⟨o, ho, _⟩ := (K.frames.mem (List.mem_filterMap.mpr ⟨env, he, hf⟩)).2
      rw [(N q (.tail _ hq)).2.2] at ho; cases ho
  have sg : ∀ b o, g.get? b = some o → b ∉ outer.filterMap (·.frame) → (hideAll s'.heap (e :: (envOf name scope L a cd :: outer).filterMap (·.frame))).get? b = some o := fun b o q nm => hideAll_get _ (F.keep b o q) fun hm => by
    rcases List.mem_cons.mp hm with rfl | hm
    · rw [(N _ (.head _)).2.2] at q; cases q
    · rcases kts_mem hm with z | z
      · rw [z, kts_self F] at q; cases q
      · exact nm z
  have W := wpAny_kd KD.leaving (wpAny_leaving_firstW (M := M) (E := E) (Q := fun _ s'' => ∃ h', s'' = { s' with heap := h' } ∧ Heap.LeftW (hideAll s'.heap (e :: (envOf name scope L a cd :: outer).filterMap (·.frame))) (envOf name scope L a cd :: outer) e (.ref 107) (.ref t₁) s'.heap h') K'.stack (funFrames_hide K'.frames hin) rfl hx (fun b o q => of_hideAll _ q) (hideAll_none _ (.head _)) rfl rfl rfl fun h' x => ⟨h', rfl, x⟩)
  refine wpAny_mono W (fun _ s'' z => ?_) fun _ _ z => z.1
  obtain ⟨⟨h', rfl, k1, ⟨_, _, k2⟩, k3, k4⟩, kd⟩ := z
  exact hQ h' ⟨⟨_, st, sg, hl, k1, hideAll_none _ (.head _), k2, k3⟩, HasD.keep ⟨_, hx, rfl⟩ kd⟩ ((Heap.UpToSlots.of_keeps F.keep).trans k4)
theorem leave_onX {a0 : Value} (K : Below A base outer g) (F : Fr g L g₂ m) (R : FlyD base g₂ (envOf name scope L a cd :: outer) e dx a0 news s'.heap) (hsm : g₂.UpToSlots s'.heap)
    (hQ : ∀ h', FlyD base g outer e dx a0 news h' → g.UpToSlots h' → Q () { s' with heap := h' }) :
    wpAny M (A.deeper (envOf name scope L a cd)) (leaving (envOf name scope L a cd) (.ref e)) Q E s' := by
  obtain ⟨⟨B, hB, hBG, hl, hfl⟩, hd'⟩ := R
  have W := wpAny_kd KD.leaving (wpAny_leaves_onW (M := M) (E := E) (Q := fun _ s'' => ∃ h', s'' = { s' with heap := h' } ∧ Heap.FlyingW B outer e (.ref 107) a0 h' ∧ s'.heap.UpToSlots h') (Around.frames_deeper K.stack) rfl hfl fun h' x1 x2 => ⟨h', rfl, x1, x2⟩)
  refine wpAny_mono W (fun _ s'' z => ?_) fun _ _ z => z.1
  obtain ⟨⟨h', rfl, x1, x2⟩, kd⟩ := z
  exact hQ h' ⟨⟨B, hB, fun b o q nm => hBG b o (F.keep b o q) (fun hm => by
      rcases kts_mem hm with z | z
      · rw [z, kts_self F] at q; cases q
      · exact nm z), fun q hq => ⟨(hl q hq).1, kts_none F.keep (hl q hq).2.1, (hl q hq).2.2⟩, x1⟩, hd'.keep kd⟩ ((Heap.UpToSlots.of_keeps F.keep).trans (hsm.trans x2))
end

theorem caughtX {w : World} {A₀ : Around} {E : Value → Shared → Prop} {s' : Shared} {base g g₀ G : Heap} {outer : List Env} {L a e t₁ dx : Addr} {m : PySem.Str → Option Value} {name : PySem.Str} {scope : Scope} {cd : Value}
    {n : PySem.Str} {b₀ : Stmt} {suite : List Stmt} {pos np : Pos} {rest : List ExceptHandler} {Q : Flow → Shared → Prop} {news : List (Addr × Obj)} {p : Program} {loose : List PySem.Str} {mean : ExcName → Option Value} {mg mb : PySem.Str → Option Value} {x : PySem.Str}
    (R : FlyD base G (envOf name scope L a cd :: outer) e dx (.ref t₁) news s'.heap) (F : Fr g L G m) (K : Below A₀ base outer g) (hsm : G.UpToSlots s'.heap) (XB : (hd.heap_1 w.params).In base) (TB : Top p loose mean mg mb base)
    (D : KtsDicts (outer.filterMap (·.frame)) g) (T0 : KtsTurn (outer.filterMap (·.frame)) g₀ g) (ex : nsIn (hd.heap_1 w.params) mainGlobals x = some (some (.ref 107)))
    (k : ∀ h' g' ox tk, KtsTurn (outer.filterMap (·.frame)) g₀ g' → Fr g' L h' (fun y => if y = n then some (.ref e) else m y) → News g' L h' ((e, ox) :: news) → ox.cls = .ref 107 → ox.dict = some dx → notCls ox = true → Below A₀ base outer g' → (hd.heap_1 w.params).In g' → Top p loose mean mg mb g' → KtsDicts (outer.filterMap (·.frame)) g' →
      wpAny (model PySem.Challenge.rw_nz0333_01.row.prog w) ((A₀.deeper (envOf name scope L a cd)).mark (some (.ref e))) (execs (b₀ :: suite) (envOf name scope L a cd))
        (fun f s₄ => wpAny (model PySem.Challenge.rw_nz0333_01.row.prog w) (A₀.deeper (envOf name scope L a cd)) (do bindName (envOf name scope L a cd) n .none; unbindBehindTheSuite (envOf name scope L a cd) n pos) (fun _ s₅ => Q f s₅) E s₄)
        (AsSuiteRaised (model PySem.Challenge.rw_nz0333_01.row.prog w) ((A₀.deeper (envOf name scope L a cd)).mark (some (.ref e))) (envOf name scope L a cd) n pos (notedBy (model PySem.Challenge.rw_nz0333_01.row.prog w) ((A₀.deeper (envOf name scope L a cd)).mark (some (.ref e))) (envOf name scope L a cd) (cameBackBy (model PySem.Challenge.rw_nz0333_01.row.prog w) (A₀.deeper (envOf name scope L a cd)) (envOf name scope L a cd) E)))
        { s' with heap := h', toks := tk })
    (hk : scope.kind = .function := by rfl) (hlo : (envOf name scope L a cd).kindOf n = some .local := by rfl) (hx : (envOf name scope L a cd).kindOf x = some .globalImplicit := by rfl) (hdb : (x == ("__debug__" : PySem.Str)) = false := by decide) :
    wpAny (model PySem.Challenge.rw_nz0333_01.row.prog w) (A₀.deeper (envOf name scope L a cd)) (noteFrame (.ref e) (envOf name scope L a cd))
      (fun _ s₂ => wpAny (model PySem.Challenge.rw_nz0333_01.row.prog w) (A₀.deeper (envOf name scope L a cd)) (setFlight (.ref e) none) (fun _ s₃ =>
        wpAny (model PySem.Challenge.rw_nz0333_01.row.prog w) (A₀.deeper (envOf name scope L a cd)) (handleBy (.ref e) (envOf name scope L a cd) (.ExceptHandler (some (.Name x np)) (some n) (b₀ :: suite) pos :: rest)) Q E s₃) E s₂) E s' := by
  obtain ⟨⟨B, hB, hBG, hl, hfl⟩, hd'⟩ := R
  have hL : B.get? L = none := by
    obtain ⟨_, ⟨L', _, hf, hn', _⟩, _⟩ := hfl.2.2.1
    obtain rfl : L = L' := Option.some.inj hf
    exact hn'
  refine wpAny_mono (wpAny_kd KD.noteFrame (wpAny_looks_onW (Q := fun _ s'' => ∃ h', s'' = { s' with heap := h' } ∧ Heap.HeldW B (envOf name scope L a cd :: outer) e (.ref 107) (.ref t₁) L h' ∧ s'.heap.UpToSlots h') (E := E) (Around.frames_deeper K.stack) rfl hfl fun h' a b => ⟨h', rfl, a, b⟩)) (fun _ s'' z => ?_) fun _ _ z => z.1
  obtain ⟨⟨h₄, rfl, hheld₄, hsm₄⟩, kd₄⟩ := z
  have hd₄ := hd'.keep kd₄
  refine wpAny_mono (wpAny_kd KD.setFlight (wpAny_landsW (Q := fun _ s'' => ∃ h', s'' = { s' with heap := h' } ∧ Heap.FlyingW B (envOf name scope L a cd :: outer) e (.ref 107) (.ref t₁) h' ∧ h₄.UpToSlots h') (E := E) hheld₄ fun h' a b => ⟨h', rfl, a, b⟩)) (fun _ s'' z => ?_) fun _ _ z => z.1
  obtain ⟨⟨h₅, rfl, hheld, hsm₅'⟩, kd₅⟩ := z
  have hd₅ := hd₄.keep kd₅
  have hsm₅ := hsm₄.trans hsm₅'
  obtain ⟨g₅, T₅, F₅, K₅⟩ := kts_ground K F hBG hheld.1 (hsm.trans hsm₅)
  have X₅ : (hd.heap_1 w.params).In g₅ := XB.keeps K₅.stays
  have P₅ : TopRead p loose mg mb g₅ := topRead_of (TB.keeps K₅.stays)
  obtain ⟨ob, hob, hobc⟩ := hheld.there
  refine wpAny_handleBy_cons (codeAny_handlers_test (name_K F₅ X₅ P₅ ex ?_ hk hx hdb)) (by intro q; cases q)
  obtain ⟨nm, q, bs, hdct, sn, sub, ab, col, dd, k0, k1, k2, k3, k5, hC⟩ := exCls_of (X₅.keeps F₅.keep) (ex_ok w)
  refine wpAny_excMatches_sub_self hC hob hobc (by decide) (codeAny_handlers_suite_as ?_)
  refine wpAny_mono (wpAny_kd KD.setFlight (lands_againW (Q := fun _ s'' => ∃ h', s'' = { s' with heap := h' } ∧ Heap.FlyingW B (envOf name scope L a cd :: outer) e (.ref 107) (.ref t₁) h' ∧ h₅.UpToSlots h') (E := fun _ _ => False) hheld fun h' a b => ⟨h', rfl, a, b⟩)) (fun _ s'' z => ?_) fun _ _ z => z.1.elim
  obtain ⟨⟨h₆, rfl, hfl₆, hsm₆⟩, kd₆⟩ := z
  have hd₆ := hd₅.keep kd₆
  obtain ⟨g₆, T₆, F₆, K₆⟩ := kts_ground K F hBG hfl₆.1 ((hsm.trans hsm₅).trans hsm₆)
  obtain ⟨oe, ws, hoe, hoec, hoed, hoe0⟩ := hfl₆.first
  obtain ⟨od', hod, hodd⟩ := hd₆
  have hdd : oe.dict = some dx := by
    have := hoe.symm.trans hod
    cases this
    exact hodd
  have ne₆ : g₆.get? e = none := T₆.none_ _ (kts_fresh F hBG hfl₆.2.1 fun o ho m => by
    obtain ⟨_, o', ho', hd9⟩ := K.frames.mem m
    rw [ho] at ho'
    cases ho'
    obtain ⟨sl, hs⟩ := ((hsm.trans hsm₅).trans hsm₆) _ _ (F.keep _ _ ho) hd9
    rw [hoe] at hs
    cases hs
    exact hd9 _ hoed)
  have Nl : News g₆ L h₆ news := fun q hq => ⟨hfl₆.1 _ _ (hl q hq).1, (fun z => by have := (hl q hq).1; rw [z, hL] at this; cases this), T₆.none_ _ (kts_none F.keep (hl q hq).2.1)⟩
  have N₆ := News.more F₆ Nl hoe (fun es n q => by rw [hoed] at q; cases q) ne₆
  refine stN F₆ N₆ (fun h₇ F₇ N₇ => ?_) hk hlo
  exact k h₇ g₆ oe _ (T0.trans T₆) F₇ N₇ hoec hdd (by unfold notCls; rw [hoed]) K₆ (XB.keeps K₆.stays) (TB.keeps K₆.stays) (D.turn T₆)

section
variable {w : World} {A : Around} {E : Value → Shared → Prop} {s : Shared} {e : Addr} {ox : Obj} {od : Option Obj}
theorem ex_find_ga (w : World) : findIn (hd.heap_1 w.params) (.ref 107) (Str.ofString "__getattribute__") = some (some (.builtin "BaseException.__getattribute__")) := by kernel_rfl
theorem ex_no_hook (w : World) : (if onTheHeap (.ref 107) then findIn (hd.heap_1 w.params) (.ref 107) (Str.ofString "__getattr__") else some none) = some none := by kernel_rfl
theorem ex_sub_base (w : World) : mroIn (hd.heap_1 w.params) 107 (.type "BaseException") = some true := by kernel_rfl
theorem ga_kind : builtinKind "BaseException.__getattribute__" = some .slot := by decide +kernel
theorem ga_split : splitId "BaseException.__getattribute__" = some ("BaseException", "__getattribute__") := by decide +kernel
theorem ex_get {name : PySem.Str} {v : Value} {expr : Bool} {Q : Value → Shared → Prop} (X : (hd.heap_1 w.params).In s.heap) (I : InstAt s.heap e ox 107 od) (hf : findObj (hd.heap_1 w.params) 107 od name = some (.value v)) (hv : handedIn v = true)
    (h : Q v { s with toks := s.toks + 1 }) : wpAny (model PySem.Challenge.rw_nz0333_01.row.prog w) A (getAttr (.ref e) name expr) Q E s := by
  obtain ⟨hh, g, d, t, os⟩ := s
  have SG := PySem.F.attr_Exception.ga
  have L0 := I.type (M := model PySem.Challenge.rw_nz0333_01.row.prog w)
  have L1 := looks_findIn (M := model PySem.Challenge.rw_nz0333_01.row.prog w) X (ex_find_ga w)
  have L2 : Looks (model PySem.Challenge.rw_nz0333_01.row.prog w) hh (hookBefore (.ref 107)) none := looks_hook X (ex_no_hook w)
  have L3 := looks_find (M := model PySem.Challenge.rw_nz0333_01.row.prog w) X I hf
  have sub : Looks (model PySem.Challenge.rw_nz0333_01.row.prog w) hh (isInstance (.ref e) (.type "BaseException")) true := L0.andThen (looks_mroIn X (ex_sub_base w))
  unfold getAttr getAttrBy
  refine wpAny_bind ?_
  refine wpAny_mkText ?_
  refine wpAny_holding ?_
  refine wpAny_bind (L0.at (wpAny_bind (L1.at ?_)))
  dsimp only
  rw [if_neg (by decide)]
  unfold getAttrByItsOwn
  refine wpAny_bind (L2.at (wpAny_bind (wpAny_attempt (wpAny_holding ?_))))
  unfold callGetattribute
  have hx0 : (expr && onTheHeap (Value.builtin "BaseException.__getattribute__")) = false := by cases expr <;> rfl
  rw [hx0]
  rw [if_neg (by decide)]
  unfold boundAndCalled
  rw [SG.bind]
  refine wpAny_bind ?_
  refine wpAny_pure ?_
  show wpAny _ _ (call (.builtin "BaseException.__getattribute__") [.ref e, .str name t]) _ _ _
  refine wpAny_call ?_
  refine codeAny_call_builtin SG.plain PySem.F.entry_bexc_ga (@check_slot (model PySem.Challenge.rw_nz0333_01.row.prog w) _ _ ⟨hh, g, d, t + 1, os⟩ "BaseException.__getattribute__" "BaseException" "__getattribute__" (.ref e) [.str name t] [] _ ga_kind ga_split sub (PySem.F.args_bexc_ga (.ref e) (.str name t)) ?_)
  unfold Builtin.«object.__getattribute__»
  have e1 : slotArgs "__getattribute__" 1 ⟨[.ref e, .str name t], []⟩ = pure (.ref e, [.str name t]) := by kernel_rfl
  rw [e1]
  refine wpAny_bind ?_
  refine wpAny_pure ?_
  dsimp only
  have e2 : Builtin.ObjectAttr.attrName (.str name t) = pure name := by kernel_rfl
  rw [e2]
  refine wpAny_bind ?_
  refine wpAny_pure ?_
  refine wpAny_bind (Looks.at L0 (wpAny_bind (Looks.at L3 ?_)))
  refine wpAny_pure ?_
  show wpAny _ _ (handedOut v) _ _ _
  rw [handedOut_of hv]
  exact wpAny_pure h
end

theorem reg45 : True := by
  k_with "exec Raise some none" => (k_here; k_dflt (refine' Raise_ex ?h ?_; (case h => rfl); k_whole))
  k_with "leaving ref" => (k_here; k_dflt (refine' leave_raiseX ?K ?F ?N ?o ?_; (case K => assumption); (case F => k_asm); (case N => k_asm); (case o => walk_at "mine:k_offs"); k_whole); intro _ _ _)
  trivial
def okC (c : Nat) : Bool := decide (32 ≤ c) && decide (c < 127)
/-- the place of the first bad sign; 0 for a good text that reads otherwise -/
def bad (ns : List Nat) : Option Nat := match ns.findIdx? (fun c => !okC c) with
  | some i => some i
  | none => if ns.head? = some 91 ∨ ns.getLast? = some 125 then some 0 else none
theorem bad_first {ns : List Nat} {i : Nat} {c : Nat} (hi : ns[i]? = some c) (hc : okC c = false) (hb : ∀ j, j < i → ∀ d, ns[j]? = some d → okC d = true) : bad ns = some i := by
  have : ns.findIdx? (fun c => !okC c) = some i := by
    obtain ⟨h, e⟩ := List.getElem?_eq_some_iff.mp hi
    rw [List.findIdx?_eq_some_iff_getElem]
    refine ⟨h, by simp [e, hc], fun j hj => ?_⟩
    have := hb j hj _ (List.getElem?_eq_getElem (Nat.lt_trans hj h))
    simp [this]
  unfold bad
  rw [this]
theorem no_bad {ns : List Nat} (hb : ∀ j, j < ns.length → ∀ d, ns[j]? = some d → okC d = true) : ns.findIdx? (fun c => !okC c) = none := by
  rw [List.findIdx?_eq_none_iff]
  intro c hc
  obtain ⟨j, hj, rfl⟩ := List.getElem_of_mem hc
  simp [hb j hj _ (List.getElem?_eq_getElem hj)]
theorem bad_head {ns : List Nat} (hb : ns.findIdx? (fun c => !okC c) = none) (q : (Txt.slice (tx ns) none (some 1) == Str.ofString "[") = true) : bad ns = some 0 := by
  unfold bad
  rw [hb]
  rw [cut_first] at q
  have q := eq_of_beq q
  cases ns with
  | nil => exact absurd (congrArg (fun x : PySem.Str => x.cps.size) q) (by decide)
  | cons c O =>
    have q2 : [c] = [91] := congrArg (fun x : PySem.Str => x.cps.toList) q
    have q3 : c = 91 := by simpa using q2
    simp [q3]
theorem bad_last {ns : List Nat} (hb : ns.findIdx? (fun c => !okC c) = none) (q : (Txt.slice (tx ns) (some (-1)) none == Str.ofString "}") = true) : bad ns = some 0 := by
  unfold bad
  rw [hb]
  rw [cut_last] at q
  have q := eq_of_beq q
  rcases List.eq_nil_or_concat ns with rfl | ⟨P, c, rfl⟩
  · exact absurd (congrArg (fun x : PySem.Str => x.cps.size) q) (by decide)
  · rw [List.concat_eq_append] at q ⊢
    have q2 : (P ++ [c]).drop ((P ++ [c]).length - 1) = [125] := congrArg (fun x : PySem.Str => x.cps.toList) q
    have q3 : c = 125 := by simpa using q2
    simp [q3]
theorem bad_none {ns : List Nat} (hb : ns.findIdx? (fun c => !okC c) = none) (q1 : (Txt.slice (tx ns) none (some 1) == Str.ofString "[") = false) (q2 : (Txt.slice (tx ns) (some (-1)) none == Str.ofString "}") = false) : bad ns = none := by
  unfold bad
  rw [hb]
  have h1 : ns.head? ≠ some 91 := fun h => by
    cases ns with
    | nil => cases h
    | cons c O =>
      obtain rfl : c = 91 := by simpa using h
      rw [cut_first] at q1
      exact absurd q1 (by simp [tx, Str.ofString]; decide)
  have h2 : ns.getLast? ≠ some 125 := fun h => by
    rcases List.eq_nil_or_concat ns with rfl | ⟨P, c, rfl⟩
    · cases h
    · rw [List.concat_eq_append] at h q2
      obtain rfl : c = 125 := by simpa using h
      rw [cut_last] at q2
      simp at q2
      exact absurd rfl q2
  simp [h1, h2]
theorem FlyD.mono {base G : Heap} {l : List Env} {e dx : Addr} {a0 : Value} {news news' : List (Addr × Obj)} {h : Heap} (x : FlyD base G l e dx a0 news h) (hs : ∀ p ∈ news', p ∈ news) : FlyD base G l e dx a0 news' h := by
  obtain ⟨⟨B, h1, h5, h2, h3⟩, h4⟩ := x
  exact ⟨⟨B, h1, h5, fun q hq => h2 q (hs q hq), h3⟩, h4⟩

theorem reg46 : True := by
  k_with "mine:raise_it" => (refine ⟨_, _, _, rfl, exCls_of (by k_in) (ex_ok _), (by (with_reducible rename News _ _ _ _ => N9); exact (N9 _ (.head _)).1), ?_⟩; k_steps)
  k_with "mine:fly_sub" => (intro p hp; rcases List.mem_cons.mp hp with rfl | hp; exact .head _; exact .tail _ (.tail _ (.tail _ (by first | exact hp | exact List.mem_append_right _ hp))))
  trivial
theorem FlyD.cut {base G : Heap} {l : List Env} {e dx : Addr} {a0 : Value} {p p1 p2 : Addr × Obj} {own news : List (Addr × Obj)} {h : Heap} (x : FlyD base G l e dx a0 (p :: p1 :: p2 :: (own ++ news)) h) : FlyD base G l e dx a0 (p :: news) h :=
  x.mono fun q hq => by
    rcases List.mem_cons.mp hq with rfl | hq
    · exact .head _
    · exact .tail _ (.tail _ (.tail _ (List.mem_append_right _ hq)))
theorem FlyD.cut0 {base G : Heap} {l : List Env} {e dx : Addr} {a0 : Value} {p p1 p2 : Addr × Obj} {news : List (Addr × Obj)} {h : Heap} (x : FlyD base G l e dx a0 (p :: p1 :: p2 :: news) h) : FlyD base G l e dx a0 (p :: news) h := FlyD.cut (own := []) x
theorem all_ok {ns : List Nat} (h : ns.findIdx? (fun c => !okC c) = none) : ∀ c ∈ (tx ns).cps.toList, c < 128 := fun c hc => by
  have := (List.findIdx?_eq_none_iff.mp h) c (by simpa using hc)
  simp [okC] at this
  omega
def PairEnd (h₀ : Heap) (L : Addr) (m₀ : PySem.Str → Option Value) (xi xc : PySem.Str) (ledger : List (Addr × Obj)) (s₁ : Shared) (G : Prop) (f : Flow) (s₂ : Shared) : Prop :=
  f = .next ∧ ∃ h' tk' ov oc, s₂ = { s₁ with heap := h', toks := tk' } ∧ Fr h₀ L h' (fun y => if y = xc then ov else if y = xi then oc else m₀ y) ∧ News h₀ L h' ledger ∧ G
theorem PairEnd.intro {h₀ h' : Heap} {L : Addr} {m₀ : PySem.Str → Option Value} {xi xc : PySem.Str} {ledger : List (Addr × Obj)} {s₁ : Shared} {G : Prop} {tk' : Nat} {ov oc : Option Value}
    (F : Fr h₀ L h' (fun y => if y = xc then ov else if y = xi then oc else m₀ y)) (N : News h₀ L h' ledger) (g : G) : PairEnd h₀ L m₀ xi xc ledger s₁ G .next { s₁ with heap := h', toks := tk' } := ⟨rfl, h', tk', ov, oc, rfl, F, N, g⟩
theorem pair_inv {α : Type} {prog : Program} {w : World} {A : Around} {E : Value → Shared → Prop} {s : Shared} {env : Env} {h₀ : Heap} {xi xc : PySem.Str} {body : List Stmt} {Q : Flow → Shared → Prop} {K : ItemKind α} {as : List α} {xv : Value} {m₀ : PySem.Str → Option Value} {news : List (Addr × Obj)} (G : Nat → Prop)
    (S : PairSrcL prog w A E h₀ env.locals K as xv s m₀ news) (g0 : G 0)
    (turn : ∀ i a t v h tk own, as[i]? = some a → K.is a v → G i → Fr h₀ env.locals h (fun y => if y = xc then some v else if y = xi then some (.int (i : Int) t) else m₀ y) → News h₀ env.locals h (own ++ news) →
      wpAny (model prog w) A (execs body env) (PairEnd h₀ env.locals m₀ xi xc (own ++ news) { s with heap := h, toks := tk } (G (i + 1))) E { s with heap := h, toks := tk })
    (done : ∀ ov oc h tk, G as.length → Fr h₀ env.locals h (fun y => if y = xc then ov else if y = xi then oc else m₀ y) → News h₀ env.locals h news → Q .next { s with heap := h, toks := tk }) :
    wpAny (model prog w) A (pyIter xv) (fun it s₂ => PairAt3 prog w A h₀ env xi xc body Q E it s₂) E s := by
  refine S.at env rfl xi xc body Q (fun i m₁ nx => nx = news ∧ G i ∧ ∃ ov oc, m₁ = fun y => if y = xc then ov else if y = xi then oc else m₀ y) ⟨rfl, g0, m₀ xc, m₀ xi, ?_⟩ ?_ ?_
  · funext y
    by_cases h1 : y = xc
    · simp [h1]
    · by_cases h2 : y = xi
      · subst h2; simp [h1]
      · simp [h1, h2]
  · rintro i a t v m₁ news₁ s₁ own ⟨h, tk, rfl⟩ hi hv ⟨rfl, hG, ov, oc, rfl⟩ _ hoff F₁ N₁
    have e : (fun y => if y = xc then some v else if y = xi then some (.int (i : Int) t) else (fun y => if y = xc then ov else if y = xi then oc else m₀ y) y) = fun y => if y = xc then some v else if y = xi then some (.int (i : Int) t) else m₀ y := by
      funext y
      by_cases h1 : y = xc
      · simp [h1]
      · by_cases h2 : y = xi
        · subst h2; simp [h1]
        · simp [h1, h2]
    rw [e] at F₁
    refine wpAny_mono (turn i a t v h tk own hi hv hG F₁ N₁) (fun f s₂ z => ?_) fun _ _ z => z
    obtain ⟨rfl, h', tk', ov', oc', rfl, F', N', g'⟩ := z
    exact ⟨rfl, h', tk', _, news₁, rfl, F', N', rfl, rfl, g', ov', oc', rfl⟩
  · rintro h' tk m' news' F' N' _ ⟨rfl, hG, ov, oc, rfl⟩
    exact done ov oc h' tk hG F' N'

theorem c_checked {w : World} {mean : ExcName → Option Value} {mg mb : PySem.Str → Option Value} {dp un : Nat} {gd : Option (List Code)} {cn : PySem.Str} {cs : Scope} {a : Addr} {ccd : Value} {cl : List (PySem.Str × Addr)} {outer : List Env} {A₀ : Around} {base h₀ : Heap} {L : Addr} {m : PySem.Str → Option Value} {s : Shared} {Q E : Value → Shared → Prop} {ns : List Nat} {t : Tok} {news : List (Addr × Obj)}
    (B : Below A₀ base outer h₀) (F : Fr h₀ L s.heap m) (X : (hd.heap_1 w.params).In h₀) (N : News h₀ L s.heap news) (T : Top topProg Lz mean mg mb h₀) (hk : cs.kind = .function) (hp : ns.length ≤ 1024 ∧ (∀ (i : Nat), bad ns = some i → ∀ (e dx t₁ : Addr) (what : PySem.Str) (tw ta k1 k2 : Tok) (g' h' : Heap) (tk' : Nat), Fr h₀ L g' m → FlyD base g' (envX cn cs L a ccd cl :: outer) e dx (.ref t₁) ((dx, exD w.params what tw (i : Int) ta k1 k2) :: news) h' → g'.UpToSlots h' → E (.ref e) { s with heap := h', toks := tk' })) (hdp : dp + 6 < recursionLimit) (hun : un + 48 < cLine)
    (hret : bad ns = none → ∀ (t' : Tok) (h' : Heap) (tk' : Nat), Fr h₀ L h' m → News h₀ L h' news → Q (.bytes (octs (tx ns)).toArray t') { s with heap := h', toks := tk' }) :
    wpAny (model PySem.Challenge.rw_nz0333_01.row.prog w) (ktrTop dp un gd cn cs L a ccd cl outer) (call (.ref 600) [.str (tx ns) t]) Q E s := by
  obtain ⟨hp, herr⟩ := hp
  have herr0 := herr 0
  rw [show ((0 : Nat) : Int) = 0 from rfl] at herr0
  have hz9 : (tx ns).length ≤ 1048576 := by rw [len_tx]; omega
  refine wpAny_call ?_
  k_dflt cell_enter
  iterate 40 (first | (with_reducible show wpAny _ _ (pyIter _) _ _ _) | (k_unfold; (try dsimp only)) | walk1)
  refine pair_inv (fun i => ∀ j, j < i → ∀ d, ns[j]? = some d → okC d = true) (by assumption) (fun j hj => absurd hj (Nat.not_lt_zero _)) ?_ ?_
  · rintro i a t v h₁ tk₁ own hi hv hb F₁ N₁
    obtain ⟨c, hc, rfl⟩ : ∃ c, ns[i]? = some c ∧ a = ⟨#[c]⟩ := by
      unfold signs at hi
      rw [List.getElem?_map] at hi
      obtain ⟨c, hc, e⟩ := Option.map_eq_some_iff.mp hi
      exact ⟨c, hc, e.symm⟩
    obtain ⟨u, rfl⟩ : ∃ u, v = .str ⟨#[c]⟩ u := by
      first | exact hv | exact ⟨_, hv⟩
    have nx : okC c = true → ∀ j, j < i + 1 → ∀ d, ns[j]? = some d → okC d = true := fun hok j hj d hd => by
      by_cases hji : j < i
      · exact hb j hji d hd
      · obtain rfl : j = i := by omega
        rw [hc] at hd; cases hd; exact hok
    k_steps
    · exact PairEnd.intro (by k_asm) (by k_asm) (nx (by unfold okC; simp; omega))
    · walk_at "mine:raise_it"
      refine' herr i (bad_first hc (by unfold okC; simp; omega) hb) _ _ _ _ _ _ _ _ _ _ _ ?fr ?fly ?up
      case up => with_reducible assumption
      case fr => with_reducible assumption
      case fly => exact FlyD.cut (by with_reducible assumption)
    · walk_at "mine:raise_it"
      refine' herr i (bad_first hc (by unfold okC; simp; omega) hb) _ _ _ _ _ _ _ _ _ _ _ ?fr ?fly ?up
      case up => with_reducible assumption
      case fr => with_reducible assumption
      case fly => exact FlyD.cut (by with_reducible assumption)
  · rintro ov oc h₁ tk₁ hb F₁ N₁
    have hb2 := no_bad (ns := ns) (fun j hj => hb j (by rw [signs_length, len_tx]; exact hj))
    have h128 := all_ok hb2
    have hl9 : (tx ns).cps.toList.length ≤ 1024 := by show ns.length ≤ 1024; exact hp
    k_steps
    · walk_at "mine:raise_it"
      refine' herr0 (bad_head hb2 (by with_reducible assumption)) _ _ _ _ _ _ _ _ _ _ _ ?fr ?fly ?up
      case up => with_reducible assumption
      case fr => with_reducible assumption
      case fly => exact FlyD.cut0 (by with_reducible assumption)
    · walk_at "mine:raise_it"
      refine' herr0 (bad_last hb2 (by with_reducible assumption)) _ _ _ _ _ _ _ _ _ _ _ ?fr ?fly ?up
      case up => with_reducible assumption
      case fr => with_reducible assumption
      case fly => exact FlyD.cut0 (by with_reducible assumption)
    · exact hret (bad_none hb2 (by assumption) (by assumption)) _ _ _ (by k_asm) (by walk_at "mine:kn")
  · k_steps

theorem reg47 : True := by
  k_with "call ref" => (k_here; (with_reducible show wpAny _ _ (call (Value.ref 600) _) _ _ _); k_dflt (refine' c_checked ?k1 ?k2 ?k3 ?k4 ?k5 ?kK ⟨?kl, ?ke⟩ ?kd ?ku ?_; (case k1 => k_asm); (case k2 => k_asm); (case k3 => k_asm); (case k4 => k_asm); (case k5 => k_asm); (case kK => first | exact rfl | assumption); (case kl => omega); (case kd => ktr_room); (case ku => ktr_units)); intro _ _ _ _ _ _)
  trivial
theorem ex_hasdict (w : World) : hasDictIn (hd.heap_1 w.params) 107 = true := by kernel_rfl
theorem ex_find_at (w : World) : findIn (hd.heap_1 w.params) (.ref 107) (Str.ofString "at") = some none := by kernel_rfl
theorem ex_at {w : World} {P : Params} {what : PySem.Str} {tw ta k1 k2 : Tok} {k : Int} : findObj (hd.heap_1 w.params) 107 (some (exD P what tw k ta k1 k2)) (Str.ofString "at") = some (.value (.int k ta)) :=
  findObj_own (attr := none) (ex_hasdict w) (ex_find_at w) rfl rfl
theorem ex_inst {h₀ h : Heap} {L e dx : Addr} {ox od : Obj} {news : List (Addr × Obj)} (N : News h₀ L h ((e, ox) :: (dx, od) :: news)) (c : ox.cls = .ref 107) (d : ox.dict = some dx) (n : notCls ox = true) : InstAt h e ox 107 (some od) :=
  ⟨(N _ (.head _)).1, c, n, by rw [d]; exact (N _ (.tail _ (.head _))).1⟩

theorem reg48 : True := by
  k_with "noteFrame ref" => (k_here; k_dflt (refine' caughtX ?R ?F ?K ?U ?XB ?TB ?D ?T0 ?ex ?_; (case U => with_reducible assumption); (case R => first | with_reducible assumption | assumption); (case F => first | with_reducible assumption | assumption); (case K => first | with_reducible assumption | assumption); (case XB => with_reducible assumption); (case TB => with_reducible assumption); (case D => first | with_reducible assumption | assumption); (case T0 => exact KtsTurn.refl); (case ex => k_is); k_whole); intro _ _ _ _ _ _ _ _ _ _ _ _ _ _)
  k_with "mine:try_in" => (refine' code_defS0 ?k1 ?k2 ?k3 ?k4 ?k5 ?kA ?k6 ?k7 ?k8 ?k9 ?kB ?_ ?cK ?c2 ?c3 ?c4 ?c5; (case kA => exact rfl); (case k2 => k_asm); (case k1 => k_asm); (case k3 => k_asm); (case k4 => k_asm); (case k5 => k_asm); (case k6 => k_is); (case k7 => k_is); (case k8 => ktr_room); (case k9 => exact BindsTo.of_eq rfl); (case kB => exact locs rfl); (case cK => assumption); (case c2 => exact rfl); (case c3 => exact rfl); (case c4 => exact rfl); (case c5 => decide); k_whole; intro g' L' h' FG' F' N' B' X' T' D'; (try dsimp only); (try k_fold))
  k_with "getAttr ref" => (k_here; k_dflt (refine' ex_get ?X ?I ?f ?v ?_; (case X => k_in); (case I => exact ex_inst (by with_reducible assumption) (by with_reducible assumption) (by with_reducible assumption) (by with_reducible assumption)); (case f => exact ex_at); (case v => rfl); k_whole))
  trivial
theorem News.left {h₀ h : Heap} {L : Addr} {news own : List (Addr × Obj)} (N : News h₀ L h (news ++ own)) : News h₀ L h news := fun q hq => N q (List.mem_append_left _ hq)
theorem ForEnd.ret {h₀ : Heap} {L : Addr} {m₀ : PySem.Str → Option Value} {x : PySem.Str} {ledger : List (Addr × Obj)} {s₁ s₂ : Shared} {G : Prop} {Q : Flow → Shared → Prop} {v : Value} (h : Q (.ret v) s₂) : ForEnd h₀ L m₀ x ledger s₁ G Q (.ret v) s₂ := h
theorem item_at {ns : List Nat} {i c : Nat} (h : ns[i]? = some c) : Txt.item (tx ns) (i : Int) = ⟨#[c]⟩ := by
  obtain ⟨hi, e⟩ := List.getElem?_eq_some_iff.mp h
  have hl : i < (tx ns).length := by rw [len_tx]; exact hi
  unfold Txt.item Txt.charAt
  rw [seqIndex_of (by omega) (by omega)]
  show (⟨#[((tx ns).cps[(i : Int).toNat]?).getD 0]⟩ : PySem.Str) = _
  rw [Int.toNat_natCast]
  simp [h]
theorem item_last {P : List Nat} {c : Nat} : Txt.item (tx (P ++ [c])) (-1) = ⟨#[c]⟩ := by
  have := item_last_right (tx P) [] c
  have e : tx P ++ (⟨([] ++ [c]).toArray⟩ : PySem.Str) = tx (P ++ [c]) := by
    show (⟨P.toArray ++ ([] ++ [c]).toArray⟩ : PySem.Str) = ⟨(P ++ [c]).toArray⟩
    simp
  rw [e] at this
  exact this
def refused (ns : List Nat) : Int := match bad ns with | some i => (i : Int) | none => -1
theorem ref_of {ns : List Nat} {i : Nat} (h : bad ns = some i) : refused ns = (i : Int) := by unfold refused; rw [h]
theorem ref_head {ns : List Nat} (hb : ns.findIdx? (fun c => !okC c) = none) (q : (Txt.item (tx ns) 0 == Str.ofString "[") = true) : refused ns = 0 := by
  cases ns with
  | nil => exact absurd q (by decide)
  | cons c O =>
    have e : Txt.item (tx (c :: O)) 0 = ⟨#[c]⟩ := item_at (i := 0) rfl
    rw [e] at q
    have q2 : [c] = [91] := congrArg (fun x : PySem.Str => x.cps.toList) (eq_of_beq q)
    have q3 : c = 91 := by simpa using q2
    unfold refused bad
    rw [hb]
    simp [q3]
theorem ref_last {ns : List Nat} (hb : ns.findIdx? (fun c => !okC c) = none) (ne : (tx ns != Str.ofString "") = true) (q : (Txt.item (tx ns) (-1) == Str.ofString "}") = true) : refused ns = 0 := by
  rcases List.eq_nil_or_concat ns with rfl | ⟨P, c, rfl⟩
  · exact absurd ne (by decide)
  · rw [List.concat_eq_append] at q hb ⊢
    rw [item_last] at q
    have q2 : [c] = [125] := congrArg (fun x : PySem.Str => x.cps.toList) (eq_of_beq q)
    have q3 : c = 125 := by simpa using q2
    unfold refused bad
    rw [hb]
    simp [q3]
theorem ref_not {ns : List Nat} (hb : ns.findIdx? (fun c => !okC c) = none) (q1 : (Txt.item (tx ns) 0 == Str.ofString "[") = false) (q2 : (Txt.item (tx ns) (-1) == Str.ofString "}") = false) : refused ns = -1 := by
  have h1 : ns.head? ≠ some 91 := fun h => by
    cases ns with
    | nil => cases h
    | cons c O =>
      obtain rfl : c = 91 := by simpa using h
      rw [show Txt.item (tx (91 :: O)) 0 = ⟨#[91]⟩ from item_at (i := 0) rfl] at q1
      exact absurd q1 (by decide)
  have h2 : ns.getLast? ≠ some 125 := fun h => by
    rcases List.eq_nil_or_concat ns with rfl | ⟨P, c, rfl⟩
    · cases h
    · rw [List.concat_eq_append] at h q2
      obtain rfl : c = 125 := by simpa using h
      rw [item_last] at q2
      exact absurd q2 (by decide)
  unfold refused bad
  rw [hb]
  simp [h1, h2]
theorem ref_nil {ns : List Nat} (e : (tx ns != Str.ofString "") = false) : refused ns = -1 := by
  cases ns with
  | nil => rfl
  | cons c O =>
    exfalso
    have q : tx (c :: O) = Str.ofString "" := by simpa using e
    exact absurd (congrArg (fun x : PySem.Str => x.cps.size) q) (fun h => Nat.succ_ne_zero O.length h)

theorem c_lrefused {w : World} {mean : ExcName → Option Value} {mg mb : PySem.Str → Option Value} {dp un : Nat} {gd : Option (List Code)} {cn : PySem.Str} {cs : Scope} {a : Addr} {ccd : Value} {cl : List (PySem.Str × Addr)} {outer : List Env} {A₀ : Around} {base h₀ : Heap} {L : Addr} {m : PySem.Str → Option Value} {s : Shared} {Q E : Value → Shared → Prop} {ns : List Nat} {t : Tok} {news : List (Addr × Obj)}
    (B : Below A₀ base outer h₀) (F : Fr h₀ L s.heap m) (X : (hd.heap_1 w.params).In h₀) (N : News h₀ L s.heap news) (T : Top topProg Lz mean mg mb h₀) (hk : cs.kind = .function) (hp : ns.length ≤ 1024) (hdp : dp + 1 < recursionLimit) (hun : un + 8 < cLine)
    (hret : ∀ (t' : Tok) (h' : Heap) (tk' : Nat), Fr h₀ L h' m → News h₀ L h' news → Q (.int (refused ns) t') { s with heap := h', toks := tk' }) :
    wpAny (model PySem.Challenge.rw_nz0333_01.row.prog w) (ktrTop dp un gd cn cs L a ccd cl outer) (call (.ref 800) [.str (tx ns) t]) Q E s := by
  have hz9 : (tx ns).length ≤ 1048576 := by rw [len_tx]; omega
  refine wpAny_call ?_
  k_dflt cell_enter
  iterate 40 (first | (with_reducible show wpAny _ _ (pyIter _) _ _ _) | (k_unfold; (try dsimp only)) | walk1)
  refine for_same (G := fun i => ∀ j, j < i → ∀ d, ns[j]? = some d → okC d = true) (src_range rfl (by assumption) (by omega)) (by k_asm) (by k_asm) (fun j hj => absurd hj (Nat.not_lt_zero _)) ?_ ?_
  · rintro i v h₁ tk₁ own hi ⟨t', rfl⟩ hb F₁ N₁
    obtain ⟨c, hc⟩ : ∃ c, ns[i]? = some c := ⟨_, List.getElem?_eq_getElem (by rw [len_tx] at hi; exact hi)⟩
    have hit := item_at hc
    k_steps
    · have hlt : c < 32 := by
        have q := ‹(Txt.item (tx ns) _).cps.toList < (Str.ofString " ").cps.toList›
        rw [hit] at q
        exact sign_lt.mp q
      refine ForEnd.ret ?_
      k_steps
      exact ret_i hret (ref_of (bad_first hc (by unfold okC; simp; omega) hb)).symm (by k_asm) (by with_reducible rename News _ _ _ _ => N9; exact News.left N9)
    · have hlt : 126 < c := by
        have q := ‹(Str.ofString "~").cps.toList < (Txt.item (tx ns) _).cps.toList›
        rw [hit] at q
        exact sign_lt.mp q
      refine ForEnd.ret ?_
      k_steps
      exact ret_i hret (ref_of (bad_first hc (by unfold okC; simp; omega) hb)).symm (by k_asm) (by with_reducible rename News _ _ _ _ => N9; exact News.left N9)
    · rw [hit] at *
      have h1 : ¬ c < 32 := fun q => absurd (sign_lt.mpr q) (by assumption)
      have h2 : ¬ 126 < c := fun q => absurd (sign_lt.mpr q) (by assumption)
      exact ForEnd.intro (by k_asm) (by k_asm) (fun j hj d hd => by
        by_cases hji : j < i
        · exact hb j hji d hd
        · obtain rfl : j = i := by omega
          rw [hc] at hd; cases hd; unfold okC; simp; omega)
  · intro ov h₁ tk₁ hb F₁ N₁
    have hb2 := no_bad (ns := ns) (fun j hj => hb j (by rw [len_tx]; exact hj))
    k_steps
    · exact ret_i hret (ref_head hb2 (by with_reducible assumption)).symm (by k_asm) (by walk_at "mine:kn")
    · exact ret_i hret (ref_last hb2 (by with_reducible assumption) (by with_reducible assumption)).symm (by k_asm) (by walk_at "mine:kn")
    · exact ret_i hret (ref_not hb2 (by with_reducible assumption) (by with_reducible assumption)).symm (by k_asm) (by walk_at "mine:kn")
    · exact ret_i hret (ref_nil (by with_reducible assumption)).symm (by k_asm) (by walk_at "mine:kn")

/-- what _law_draw gives -/
def drawV (ns : List Int) (k limit : Int) : Int := Int.fmod (ns.getD (Int.fmod k (ns.length : Int)).toNat 0 + 11 * Int.fdiv k (ns.length : Int)) limit

theorem c_ldraw {w : World} {mean : ExcName → Option Value} {mg mb : PySem.Str → Option Value} {dp un : Nat} {gd : Option (List Code)} {cn : PySem.Str} {cs : Scope} {a : Addr} {ccd : Value} {cl : List (PySem.Str × Addr)} {outer : List Env} {A₀ : Around} {base h₀ : Heap} {L : Addr} {m : PySem.Str → Option Value} {s : Shared} {Q E : Value → Shared → Prop} {src c : Addr} {ns : List Int} {vs : List Value} {k limit : Int} {n1 n2 : Nat} {t tl : Tok} {rest : List (Addr × Obj)}
    (B : Below A₀ base outer h₀) (F : Fr h₀ L s.heap m) (X : (hd.heap_1 w.params).In h₀) (N : News h₀ L s.heap ((src, { cls := .type "list", data := .seq [.ref c, .int k t].toArray n1 }) :: (c, { cls := .type "list", data := .seq vs.toArray n2 }) :: rest)) (T : Top topProg Lz mean mg mb h₀) (hk : cs.kind = .function) (hp : IntsAre vs ns ∧ (1 ≤ ns.length ∧ ns.length ≤ 100) ∧ (0 ≤ k ∧ k < 1000) ∧ (1 ≤ limit ∧ limit < 100) ∧ (@LT.lt Nat instLTNat c src ∧ ∀ p ∈ rest, p.1 ≠ src)) (hdp : dp + 1 < recursionLimit) (hun : un + 8 < cLine)
    (hret : ∀ (t' t2 : Tok) (h' : Heap) (tk' : Nat), Fr h₀ L h' m → News h₀ L h' ((src, { cls := .type "list", data := .seq [.ref c, .int (k + 1) t2].toArray n1 }) :: (c, { cls := .type "list", data := .seq vs.toArray n2 }) :: rest) → Q (.int (drawV ns k limit) t') { s with heap := h', toks := tk' }) :
    wpAny (model PySem.Challenge.rw_nz0333_01.row.prog w) (ktrTop dp un gd cn cs L a ccd cl outer) (call (.ref 793) [.ref src, .int limit tl]) Q E s := by
  obtain ⟨hi, ⟨hl0, hl1⟩, ⟨hk0, hk1⟩, ⟨hm0, hm1⟩, hne, hoff⟩ := hp
  have hvl : vs.length = ns.length := hi.length
  refine wpAny_call ?_
  k_dflt cell_enter
  k_steps
  exact hret _ _ _ _ (by k_asm) (by walk_at "mine:kn")

theorem reg49 : True := by
  k_with "call ref" => (k_here; (with_reducible show wpAny _ _ (call (Value.ref 793) _) _ _ _); k_dflt (refine' c_ldraw ?k1 ?k2 ?k3 ?k4 ?k5 ?kK ?kp ?kd ?ku ?_; (case k1 => k_asm); (case k2 => k_asm); (case k3 => k_asm); (case k4 => k_asm); (case k5 => k_asm); (case kK => first | exact rfl | assumption); (case kp => exact ⟨by with_reducible assumption, ⟨by omega, by omega⟩, ⟨by omega, by omega⟩, ⟨by omega, by omega⟩, by assumption, by assumption⟩); (case kd => ktr_room); (case ku => ktr_units); k_whole); intro _ _ _ _ _ _; (try dsimp only); (try k_fold))
  trivial
theorem reg50 : True := by
  k_with "call ref" => (k_here; (with_reducible show wpAny _ _ (call (Value.ref 800) _) _ _ _); k_dflt (refine' c_lrefused ?k1 ?k2 ?k3 ?k4 ?k5 ?kK ?kp ?kd ?ku ?_; (case k1 => k_asm); (case k2 => k_asm); (case k3 => k_asm); (case k4 => k_asm); (case k5 => k_asm); (case kK => first | exact rfl | assumption); (case kp => omega); (case kd => ktr_room); (case ku => ktr_units); k_whole); intro _ _ _ _ _; (try dsimp only); (try k_fold))
  trivial
theorem c_value7 {w : World} {mean : ExcName → Option Value} {mg mb : PySem.Str → Option Value} {dp un : Nat} {gd : Option (List Code)} {cn : PySem.Str} {cs : Scope} {a : Addr} {ccd : Value} {cl : List (PySem.Str × Addr)} {outer : List Env} {A₀ : Around} {base h₀ : Heap} {L : Addr} {m : PySem.Str → Option Value} {s : Shared} {Q E : Value → Shared → Prop} {x dx : Addr} {k1 k2 t1 t2 : Tok} {D R : List UInt8} {i : Int} {rest : List (Addr × Obj)} {td : Tok}
    (B : Below A₀ base outer h₀) (F : Fr h₀ L s.heap m) (X : (hd.heap_1 w.params).In h₀) (N : News h₀ L s.heap ((x, instObj 549 dx) :: (dx, wdict w.params k1 k2 D t1 (i) t2 2) :: rest)) (T : Top topProg Lz mean mg mb h₀) (hk : cs.kind = .function) (hp : At D i (55 :: 93 :: R) ∧ @LT.lt Nat instLTNat dx x ∧ ∀ p ∈ rest, p.1 ≠ dx) (hdp : dp + 10 < recursionLimit) (hun : un + 80 < cLine)
    (hret : ∀ (t t2' : Tok) (h' : Heap) (tk' : Nat), Fr h₀ L h' m → News h₀ L h' ((x, instObj 549 dx) :: (dx, wdict w.params k1 k2 D t1 (i + 1) t2' 2) :: rest) → Q (.int 7 t) { s with heap := h', toks := tk' }) :
    wpAny (model PySem.Challenge.rw_nz0333_01.row.prog w) (ktrTop dp un gd cn cs L a ccd cl outer) (call (.ref 546) [.ref x]) Q E s := by
  obtain ⟨hp, hne, hnr⟩ := hp
  refine wpAny_call ?_
  k_dflt walk_at "mine:cell_in"
  have q1 : peekR (55 :: 93 :: R) ≠ 34 := show ((55 : UInt8).toNat : Int) ≠ 34 by decide
  have q2 : peekR (55 :: 93 :: R) ≠ 123 := show ((55 : UInt8).toNat : Int) ≠ 123 by decide
  have q3 : peekR (55 :: 93 :: R) ≠ 40 := show ((55 : UInt8).toNat : Int) ≠ 40 by decide
  k_steps
  all_goals first | exact absurd (by with_reducible assumption) q1 | exact absurd (by with_reducible assumption) q2 | exact absurd (by with_reducible assumption) q3 | exact hret _ _ _ _ (by k_asm) (by walk_at "mine:kn")

theorem reg51 : True := by
  k_with "call ref" => (k_here; (with_reducible show wpAny _ _ (call (Value.ref 546) _) _ _ _); k_dflt (refine' c_value7 ?k1 ?k2 ?k3 ?k4 ?k5 ?kK ?kp ?kd ?ku ?_; (case k1 => k_asm); (case k2 => k_asm); (case k3 => k_asm); (case k4 => k_asm); (case k5 => k_asm); (case kK => first | exact rfl | assumption); (case kp => first | assumption | exact ⟨by assumption, by omega, by assumption⟩); (case kd => ktr_room); (case ku => ktr_units); k_whole); intro _ _ _ _ _ _; (try dsimp only); (try k_fold))
  trivial
section
variable {prog : Program} {w : World} {A : Around} {s : Shared} {R : Result → Shared → Prop}
theorem codeC_func {body : List Stmt} {env : Env}
    (h : wpC (model prog w) (A.deeper env) (execs body env) (fun f s' => R (.ok (.ret (match f with | .ret v => v | _ => .none))) s')
      (fun e s' => wpAny (model prog w) (A.deeper env) (leaving env e) (fun _ s'' => R (.error e) s'') (fun e' s'' => R (.error e') s'') s') s) :
    codeC (model prog w) A (.func body env) R s := by
  refine codeC_of_tree rfl ?_
  show wpC _ (A.deeper env) (do point; match ← (execs body env).onRaise (leaving env) with | .ret v => ret v | _ => ret .none) _ _ s
  refine wpC_bind (wpC_of (wpAny_point (wpC_bind (wpC_onRaise (wpC_mono h (fun f s' h' => ?_) fun _ _ h' => wpC_of h')))))
  cases f <;> exact wpC_pure h'
theorem codeC_call_def {a : Addr} {o : Obj} {fd : FuncData} {body : List Stmt} {args : Args} {binds : List (PySem.Str × Value)}
    (hroom : A.depth < recursionLimit) (ho : s.heap.get? a = some o) (hdata : o.data = .func fd) (hlim : s.heap.NoLimit) (hcd : s.heap.CodeRec fd.code fd.qualname)
    (hbody : fd.body = .stmts body) (hbind : BindsTo s fd args binds)
    (hcell : ∀ x ∈ fd.scope.names, x.2 ≠ .cell) (hloc : ∀ x ∈ binds, fd.scope.names.lookup x.1 = some .local)
    (h : ∀ h₀, h₀.Ns s.heap.objs.size (fun x => binds.reverse.lookup x) → (∀ b o, s.heap.get? b = some o → h₀.get? b = some o) →
      wpC (model prog w) (A.deeper (callEnv fd s.heap.objs.size a)) (execs body (callEnv fd s.heap.objs.size a)) (fun f s' => R (.ok (.ret (match f with | .ret v => v | _ => .none))) s')
        (fun e s' => wpAny (model prog w) (A.deeper (callEnv fd s.heap.objs.size a)) (leaving (callEnv fd s.heap.objs.size a) e) (fun _ s'' => R (.error e) s'') (fun e' s'' => R (.error e') s'') s')
        { s with heap := h₀, toks := s.toks + binds.length })
    (hco : fd.scope.isCoroutine = false) (hgen : fd.scope.isGenerator = false) (hk : fd.scope.kind = .function) :
    codeC (model prog w) A (.call (.ref a) args) R s := by
  refine codeC_of_tree rfl (wpC_of ?_)
  show wpAny _ A.in1 (callAny (.ref a) args) _ _ s
  obtain ⟨c, oc, vs, tq, hc, hoc, hdc, hq⟩ := hcd
  unfold callAny
  refine wpAny_bind ?_
  refine wpAny_load ho ?_
  simp only [hdata, callFunction, hco, hgen, hbody]
  rw [hc]
  refine wpAny_bind (m := field (.ref c) 1) ?_
  refine wpAny_field hoc hdc hq ?_
  refine wpAny_bind ?_
  refine wpAny_pure ?_
  refine wpAny_bind (hbind _ _ _ _ (wpAny_bind ?_))
  rw [← hc]
  refine wpAny_newFunctionEnv hcell hloc (fun h₀ hns hsb => wpAny_bind (wpAny_enterFrame (hlim.fresh _ hsb) hroom (wpAny_pure ⟨rfl, codeC_func (h h₀ hns fun b o e => ?_)⟩))) hk
  exact hsb.extBut b o (Nat.ne_of_lt (Heap.lt_size e)) (Heap.get?_push_of_some _ e)
variable {A₀ : Around} {base h₀ : Heap} {outer : List Env} {L a : Addr} {m : PySem.Str → Option Value} {env : Env} {news : List (Addr × Obj)} {K : Frag} {p : Program} {loose : List PySem.Str} {mean : ExcName → Option Value} {mg mb : PySem.Str → Option Value}
  {name qual : PySem.Str} {params : Arguments} {body : List Stmt} {scope : Scope} {dV kV doc pm cdv ct oc : Value} {an od : Option Addr} {osl : Array (Option Value)} {f : Addr} {args : Args} {binds : List (PySem.Str × Value)}
theorem codeC_def
    (B : Below A₀ base outer h₀) (F : Fr h₀ L s.heap m) (X₀ : K.In h₀) (N : News h₀ L s.heap news) (T : Top p loose mean mg mb h₀) (hA : A.frames = some (env :: outer)) (hf : env.frame = some L) (hke : env.scope.kind = .function)
    (ho : K.lookup f = some ⟨oc, od, .func (fnOf name qual params body scope dV kV doc pm an cdv ct), osl⟩) (hcd : codeIn K cdv qual = true) (hroom : A.depth < recursionLimit)
    (hbind : BindsTo s (fnOf name qual params body scope dV kV doc pm an cdv ct) args binds) (hloc : ∀ y ∈ binds, scope.names.lookup y.1 = some .local)
    (h : ∀ g L' h₁, Fr h₀ L g m → Fr g L' h₁ (fun y => binds.reverse.lookup y) → News g L' h₁ news → Below A base (env :: outer) g → K.In g → Top p loose mean mg mb g →
      wpC (model prog w) (A.deeper (envOf qual scope L' f cdv)) (execs body (envOf qual scope L' f cdv))
        (fun fl s' => LeaveK h₀ L m g R (match fl with | .ret v => v | _ => .none) s')
        (fun e s' => wpAny (model prog w) (A.deeper (envOf qual scope L' f cdv)) (leaving (envOf qual scope L' f cdv) e) (fun _ s'' => R (.error e) s'') (fun e' s'' => R (.error e') s'') s')
        { s with heap := h₁, toks := s.toks + binds.length })
    (hco : scope.isCoroutine = false) (hgen : scope.isGenerator = false) (hk : scope.kind = .function) (hcell : ∀ x ∈ scope.names, x.2 ≠ .cell) : codeC (model prog w) A (.call (.ref f) args) R s := by
  have X := X₀.keeps F.keep
  obtain ⟨FG, BG, st, lv⟩ := groundX (R := R) B F N hA hf hke
  refine codeC_call_def (fd := fnOf name qual params body scope dV kV doc pm an cdv ct) (body := body) (binds := binds) hroom (X _ _ ho) rfl (T.nolimit.keeps F.keep) (codeRec_of X hcd) rfl hbind hcell hloc (fun h₁ hns hk₁ => ?_) hco hgen hk
  exact wpC_mono (h _ s.heap.objs.size h₁ FG ⟨hns, fun b o e => hk₁ b o (of_hideAll _ e), Nat.le_of_eq (hideAll_size _ _)⟩
    (fun p hp => ⟨hk₁ _ _ (N p hp).1, Nat.ne_of_lt (Heap.lt_size (N p hp).1), hideAll_none _ (List.mem_map_of_mem hp)⟩) BG (X₀.keeps st) (T.keeps st)) (fun fl s' hl => lv _ _ hl) fun _ _ y => y
theorem codeC_call_function {a : Addr} {o : Obj} {fd : FuncData} {body : List Stmt} {args : Args} (hroom : A.depth < recursionLimit) (ho : s.heap.get? a = some o)
    (hd' : o.data = .func fd) (hco : fd.scope.isCoroutine = false) (hgen : fd.scope.isGenerator = false) (hbody : fd.body = .stmts body) (hcd : s.heap.CodeRec fd.code fd.qualname)
    (h : wpAny (model prog w) A.in1 (bindArgs fd args) (fun binds s₁ =>
      wpAny (model prog w) A.in1 (newFunctionEnv fd.scope fd.globals fd.closure binds (fd.qualname ++ ".<locals>.") (some a) fd.code none fd.builtins)
        (fun env s₂ => s₂.heap.NoLimit ∧ codeC (model prog w) A (.func body env) R s₂) (fun e s' => R (.error e) s') s₁) (fun e s' => R (.error e) s') s) :
    codeC (model prog w) A (.call (.ref a) args) R s := by
  refine codeC_of_tree rfl (wpC_of ?_)
  show wpAny _ A.in1 (callAny (.ref a) args) _ _ s
  simp only [callAny]
  refine wpAny_bind ?_
  refine wpAny_load ho ?_
  obtain ⟨c, oc, vs, tq, hc, hoc, hdc, hq⟩ := hcd
  simp only [hd', callFunction, hco, hgen, hbody, hc]
  rw [hc] at h
  refine wpAny_bind (m := field (.ref c) 1) ?_
  refine wpAny_field hoc hdc hq ?_
  refine wpAny_bind ?_
  refine wpAny_pure ?_
  exact wpAny_bind (wpAny_mono h (fun binds s₁ h₁ => wpAny_bind (wpAny_mono h₁ (fun env s₂ h₂ => wpAny_bind (wpAny_enterFrame h₂.1 hroom
    (wpAny_pure (And.intro rfl h₂.2)))) fun _ _ h' => h')) fun _ _ h' => h')
theorem codeC_defC
    (B : Below A₀ base outer h₀) (F : Fr h₀ L s.heap m) (X₀ : K.In h₀) (N : News h₀ L s.heap news) (T : Top p loose mean mg mb h₀) (hA : A.frames = some (env :: outer)) (hf : env.frame = some L) (hke : env.scope.kind = .function)
    (ho : K.lookup f = some ⟨oc, od, .func (fnOf name qual params body scope dV kV doc pm an cdv ct), osl⟩) (hcd : codeIn K cdv qual = true) (hroom : A.depth < recursionLimit)
    (hbind : BindsTo s (fnOf name qual params body scope dV kV doc pm an cdv ct) args binds) (hkind : (binds.all fun y => scope.names.lookup y.1 == some .local || scope.names.lookup y.1 == some .cell) = true)
    (hnd : ((cellsFrom 0 scope.names []).map (·.1)).Nodup)
    (h : ∀ g L' h₁ tk cells, Fr h₀ L g m → Fr g L' h₁ (bindL (envOfC qual scope L' f cdv).kindOf binds fun _ => none) → News g L' h₁ (cells ++ news) →
      CellsAre (bindC (envOfC qual scope L' f cdv).kindOf binds fun _ => none) (cellsFrom (L' + 1) scope.names []) cells → Below A base (env :: outer) g → K.In g → Top p loose mean mg mb g → (∀ p ∈ news, p.1 < L') →
      wpC (model prog w) (A.deeper (envOfC qual scope L' f cdv)) (execs body (envOfC qual scope L' f cdv))
        (fun fl s' => LeaveK h₀ L m g R (match fl with | .ret v => v | _ => .none) s')
        (fun e s' => wpAny (model prog w) (A.deeper (envOfC qual scope L' f cdv)) (leaving (envOfC qual scope L' f cdv) e) (fun _ s'' => R (.error e) s'') (fun e' s'' => R (.error e') s'') s')
        { s with heap := h₁, toks := tk })
    (hco : scope.isCoroutine = false) (hgen : scope.isGenerator = false) (hk : scope.kind = .function) : codeC (model prog w) A (.call (.ref f) args) R s := by
  have X := X₀.keeps F.keep
  obtain ⟨FG, BG, st, lv⟩ := groundX (R := R) B F N hA hf hke
  refine codeC_call_function (fd := fnOf name qual params body scope dV kV doc pm an cdv ct) (body := body) hroom (X _ _ ho) rfl hco hgen rfl (codeRec_of X hcd) (hbind _ _ _ _ ?_)
  refine wpAny_newFunctionEnv_cells hk (kindsX hkind _) fun env' he s' x => ?_
  subst he
  refine ⟨((T.nolimit).keeps F.keep).keeps x.toInCall.keep, codeC_func ?_⟩
  obtain ⟨h₁, tk, rfl, _⟩ := x.done
  have hk₁ := x.toInCall.keep
  obtain ⟨cells, NC, Y⟩ := Cl.news (h₀ := s.heap) (Nat.le_refl _) fun n c hm => ⟨x.cell n c (lookup_of_mem_nodup (cellsFrom_names scope.names 0 (s.heap.objs.size + 1) [] [] rfl ▸ hnd) hm), x.above n c hm⟩
  refine wpC_mono (h _ s.heap.objs.size h₁ tk cells FG ⟨x.toInCall.ns, fun b o e => hk₁ b o (of_hideAll _ e), Nat.le_of_eq (hideAll_size _ _)⟩ (fun p hp => ?_) Y BG (X₀.keeps st) (T.keeps st) (fun p hp => Heap.lt_size (N p hp).1)) (fun fl s' hl => lv _ _ hl) fun _ _ y => y
  rcases List.mem_append.mp hp with hp | hp
  · refine ⟨(NC p hp).1, (NC p hp).2.1, ?_⟩
    cases q : (hideAll s.heap (news.map (·.1))).get? p.1 with
    | none => rfl
    | some o => have := of_hideAll _ q; rw [(NC p hp).2.2] at this; cases this
  · exact ⟨hk₁ _ _ (N p hp).1, Nat.ne_of_lt (Heap.lt_size (N p hp).1), hideAll_none _ (List.mem_map_of_mem hp)⟩
/-- kts_enter, for a frame with cells -/
theorem enterX (B : Below A₀ base outer h₀) (F : Fr h₀ L s.heap m) (N : News h₀ L s.heap news) (hA : A.frames = some (env :: outer)) (hf : env.frame = some L) (hke : env.scope.kind = .function) :
    ∃ oL es ep, (hideAll s.heap (news.map (·.1))).get? L = some oL ∧ oL.data = .dict es ep ∧ (∀ h', h'.get? L = some oL → Heap.Ns h' L m) ∧ (∀ (sl : Array (Option Value)) h', h'.get? L = some { oL with slots := sl } → Heap.Ns h' L m) ∧
      h₀.StaysIn (hideAll s.heap (news.map (·.1))) ∧ Below A base (env :: outer) (hideAll s.heap (news.map (·.1))) := by
  obtain ⟨FG, BG, st, _⟩ := groundX (R := fun _ _ => True) B F N hA hf hke
  obtain ⟨oL, es, ep, hL, hLd, hLk, hLf⟩ := FG.ns
  exact ⟨oL, es, ep, hL, hLd, fun h' e => ⟨oL, es, ep, e, hLd, hLk, hLf⟩, fun sl h' e => ⟨_, es, ep, e, hLd, hLk, hLf⟩, st, BG⟩
theorem codeC_defS0 (B : Below A₀ base [] h₀) (F : Fr h₀ L s.heap m) (X₀ : K.In h₀) (N : News h₀ L s.heap news) (T : Top p loose mean mg mb h₀) (hA : A.frames = some [env]) (hf : env.frame = some L) (hke : env.scope.kind = .function)
    (ho : K.lookup f = some ⟨oc, od, .func (fnOf name qual params body scope dV kV doc pm an cdv ct), osl⟩) (hcd : codeIn K cdv qual = true) (hroom : A.depth < recursionLimit)
    (hbind : BindsTo s (fnOf name qual params body scope dV kV doc pm an cdv ct) args binds) (hloc : ∀ y ∈ binds, scope.names.lookup y.1 = some .local)
    (h : ∀ g L' h₁, Fr h₀ L g m → Fr g L' h₁ (fun y => binds.reverse.lookup y) → News g L' h₁ news → Below A base [env] g → K.In g → Top p loose mean mg mb g → KtsDicts ([env].filterMap (·.frame)) g →
      wpC (model prog w) (A.deeper (envOf qual scope L' f cdv)) (execs body (envOf qual scope L' f cdv))
        (fun fl s' => LeaveS0 ([env].filterMap (·.frame)) h₀ L m g R (match fl with | .ret v => v | _ => .none) s')
        (fun e s' => wpAny (model prog w) (A.deeper (envOf qual scope L' f cdv)) (leaving (envOf qual scope L' f cdv) e) (fun _ s'' => R (.error e) s'') (fun e' s'' => R (.error e') s'') s')
        { s with heap := h₁, toks := s.toks + binds.length })
    (hco : scope.isCoroutine = false) (hgen : scope.isGenerator = false) (hk : scope.kind = .function)
    (hcell : ∀ x ∈ scope.names, x.2 ≠ .cell) : codeC (model prog w) A (.call (.ref f) args) R s := by
  have X := X₀.keeps F.keep
  refine codeC_call_def (fd := fnOf name qual params body scope dV kV doc pm an cdv ct) (body := body) (binds := binds) hroom (X _ _ ho) rfl (T.nolimit.keeps F.keep) (codeRec_of X hcd) rfl hbind hcell hloc (fun h₁ hns hk₁ => ?_) hco hgen hk
  obtain ⟨oL, es, ep, hLg, hLd, hN, hNs, st, B₂⟩ := enterX B F N hA hf hke
  have e1 : [env].filterMap (·.frame) = [L] := by simp [hf]
  refine wpC_mono (h _ s.heap.objs.size h₁ ⟨hN _ hLg, st, F.above⟩ ⟨hns, fun b o e => hk₁ b o (of_hideAll _ e), Nat.le_of_eq (hideAll_size _ _)⟩
    (fun p hp => ⟨hk₁ _ _ (N p hp).1, Nat.ne_of_lt (Heap.lt_size (N p hp).1), hideAll_none _ (List.mem_map_of_mem hp)⟩) B₂ (X₀.keeps st) (T.keeps st) (fun b hb => by
      rw [e1] at hb
      obtain rfl := List.mem_singleton.mp hb
      exact ⟨oL, es, ep, hLg, hLd⟩)) (fun fl s' hl => ?_) fun _ _ y => y
  obtain ⟨g', L', m', news', T', F', N', k⟩ := hl
  have nL₀ : h₀.get? L = none := kts_self F
  obtain ⟨sl, hs⟩ := T'.up hLg
  refine k ⟨hNs sl _ (F'.keep _ _ hs), fun b o e => F'.keep b o (T'.other b o (st b o e) (fun q => by
    rw [e1] at q
    rw [List.mem_singleton.mp q, nL₀] at e
    cases e)), F.above⟩ fun p hp => ⟨(N' p hp).1, fun q => ?_, ?_⟩
  · have := (N' p hp).2.2; rw [q, hs] at this; cases this
  · cases q : h₀.get? p.1 with
    | none => rfl
    | some o =>
      obtain ⟨sl', hs'⟩ := T'.up (st _ _ q)
      have := (N' p hp).2.2
      rw [hs'] at this
      cases this
end

section
variable {α β : Type} {M : Model} {A : Around} {E : Value → Shared → Prop} {s : Shared} {env : Env}
theorem wpC_execs_cons {st : Stmt} {rest : List Stmt} {Q : Flow → Shared → Prop}
    (h : wpC M A (exec st env) (fun f s' => match f with | .next => wpC M A (execs rest env) Q E s' | f => Q f s') E s) : wpC M A (execs (st :: rest) env) Q E s := by
  rw [execs_cons]
  refine wpC_bind (wpC_mono h (fun f s' h' => ?_) fun _ _ e => e)
  cases f <;> first | exact h' | exact wpC_pure h'
theorem wpC_Return {e : PySem.Expr} {pos : Pos} {Q : Flow → Shared → Prop} (h : wpC M A (eval e env) (fun v => Q (.ret v)) E s) : wpC M A (exec (.Return (some e) pos) env) Q E s := by
  rw [exec_Return_some]
  exact wpC_standAt (wpC_bind (wpC_mono h (fun v s' h' => wpC_pure h') fun _ _ e => e))
theorem wpC_Assign_Name {x : PySem.Str} {pos' pos : Pos} {value : PySem.Expr} {Q : Flow → Shared → Prop}
    (h : wpC M A (eval value env) (fun v s₁ => wpC M A (storeName env x v) (fun _ => Q .next) E s₁) E s)
    (hs : swapsWith value (some (.Name x pos')) pos.line env = pure false := by rfl) : wpC M A (exec (.Assign [.Name x pos'] value pos) env) Q E s := by
  rw [exec_Assign_Name env x pos' value pos hs]
  refine wpC_standAt (wpC_bind (wpC_mono h (fun v s₁ h₁ => wpC_standAt (wpC_bind ?_)) fun _ _ e => e))
  intro Γ p hΓ h1 h2
  rw [Sem.wp_bindName]
  exact wpC_mono h₁ (fun _ s₂ h₂ => wpC_pure h₂) (fun _ _ e => e) Γ p hΓ h1 h2
theorem wpC_Expr {e : PySem.Expr} {pos : Pos} {Q : Flow → Shared → Prop} (h : wpC M A (eval e env) (fun v s' => (∀ a, v ≠ .ref a) ∧ Q .next s') E s)
    (hi : interactive env = false := by rfl) (hs : swapsWith e none pos.line env = pure false := by rfl) : wpC M A (exec (.Expr e pos) env) Q E s := by
  rw [exec_Expr env e pos hi hs]
  refine wpC_standAt (wpC_bind (wpC_mono h (fun v s' h' => ?_) fun _ _ x => x))
  rw [dropValue_plain h'.1]
  exact wpC_pure h'.2
theorem wpC_If {test : PySem.Expr} {body orelse : List Stmt} {pos : Pos} {Q : Flow → Shared → Prop}
    (h : wpC M A (isTrue test env (eval test env)) (fun b s₂ => if b then wpC M A (execs body env) Q E s₂ else wpC M A (execs orelse env) Q E s₂) E s) : wpC M A (exec (.If test body orelse pos) env) Q E s := by
  rw [exec_If]
  refine wpC_standAt (wpC_bind (wpC_mono h (fun b s₂ h₂ => ?_) fun _ _ e => e))
  cases b <;> exact h₂
theorem wpC_IfExp {test body orelse : PySem.Expr} {pos : Pos} {Q : Value → Shared → Prop}
    (h : wpC M A (isTrue test env (eval test env)) (fun c s₂ => if c then wpC M A (eval body env) Q E s₂ else wpC M A (eval orelse env) Q E s₂) E s) : wpC M A (eval (.IfExp test body orelse pos) env) Q E s := by
  rw [PyProof.Rows.eval_IfExp]
  refine wpC_bind (wpC_mono h (fun c s₂ h₂ => ?_) fun _ _ e => e)
  cases c <;> exact h₂
theorem wpC_BinOp {l r : PySem.Expr} {op : PySem.Operator} {pos : Pos} {Q : Value → Shared → Prop}
    (h : wpC M A (eval l env) (fun a s₁ => wpC M A (eval r env) (fun b s₂ => wpC M A (binaryOp op a b) Q E s₂) E s₁) E s) : wpC M A (eval (.BinOp l op r pos) env) Q E s := by
  rw [eval_BinOp]
  exact wpC_bind (wpC_mono h (fun a s₁ h₁ => wpC_bind (wpC_holding (wpC_mono h₁ (fun b s₂ h₂ => wpC_standAt (wpC_operate h₂)) fun _ _ e => e))) fun _ _ e => e)
theorem wpC_isTrue_Compare1 {l r : PySem.Expr} {op : CmpOp} {pos : Pos} {whole : Sem Value} {Q : Bool → Shared → Prop}
    (h : wpC M A (eval l env) (fun a s₁ => wpC M A (eval r env) (fun b s₂ => wpC M A (compareOp op a b) (fun c s₃ => wpC M A (truthy c) Q E s₃) E s₂) E s₁) E s)
    (hm : behindInMarks op r = false := by with_unfolding_all rfl) : wpC M A (isTrue (.Compare l [op] [r] pos) env whole) Q E s := by
  rw [isTrue_Compare1, markedBehindIn_of_false hm]
  exact wpC_bind (wpC_mono h (fun a s₁ h₁ => wpC_bind (wpC_holding (wpC_mono h₁ (fun b s₂ h₂ => wpC_standAt (wpC_bind (wpC_operate (wpC_mono h₂ (fun c s₃ h₃ => wpC_holding h₃) fun _ _ e => e)))) fun _ _ e => e))) fun _ _ e => e)
theorem wpC_isTrue_and {x : PySem.Expr} {rest : List PySem.Expr} {pos : Pos} {whole : Sem Value} {Q : Bool → Shared → Prop}
    (h : wpC M A (isTrue x env (eval x env)) (fun c s' => if c then wpC M A (isTrue (.BoolOp .And rest pos) env whole) Q E s' else Q false s') E s) : wpC M A (isTrue (.BoolOp .And (x :: rest) pos) env whole) Q E s := by
  show wpC M A (do
    match BoolOp.And, ← isTrue x env (eval x env) with
    | .And, false => pure false
    | .Or, true => pure true
    | _, _ => allTrue .And rest env) Q E s
  refine wpC_bind (wpC_mono h (fun c s' h' => ?_) fun _ _ x => x)
  cases c with
  | false => exact wpC_pure h'
  | true => exact h'
theorem wpC_Call {func : PySem.Expr} {args : List PySem.Expr} {pos : Pos} {Q : Value → Shared → Prop}
    (h : wpAny M A (eval func env) (fun f s₁ => wpC M A (callWith pos f [] (backTo pos (starEach args env)) []) Q E s₁) E s)
    (he : eval (.Call func args [] pos) env = (do callWith pos (← eval func env) [] (backTo pos (starEach args env)) (backToKw pos (keywordEach [] env))) := by rfl) :
    wpC M A (eval (.Call func args [] pos) env) Q E s := by
  rw [he]; exact wpC_bind (wpC_of h)
theorem wpC_MethodCall {o : PySem.Expr} {name : PySem.Str} {apos pos : Pos} {args : List PySem.Expr} {pl : Sem Bool} {Q : Value → Shared → Prop}
    (h : wpAny M A (eval o env) (fun ov s₁ => wpAny M A (getMethod ov name pl) (fun fx s₂ => wpC M A (callWith pos fx.1 fx.2 (backTo pos (starEach args env)) []) Q E s₂) E s₁) E s)
    (he : eval (.Call (.Attribute o name apos) args [] pos) env = (do
      let ov ← eval o env
      standAt apos.atName
      let (f, first) ← holding [ov] (getMethod ov name pl)
      callWith pos f first (backTo pos (starEach args env)) []) := by rfl) :
    wpC M A (eval (.Call (.Attribute o name apos) args [] pos) env) Q E s := by
  rw [he]
  exact wpC_bind (wpC_of (wpAny_mono h (fun ov s₁ h₁ => wpC_standAt (wpC_bind (wpC_holding (wpC_of (wpAny_mono h₁ (fun fx s₂ h₂ => h₂) fun _ _ x => x))))) fun _ _ x => x))
theorem wpC_spliced_cons {x : Sem Value} {rest : List (Bool × Sem Value)} {Q : List Value → Shared → Prop}
    (h : wpC M A x (fun v s₁ => wpC M A (spliced rest) (fun vs s₂ => Q (v :: vs) s₂) E s₁) E s) : wpC M A (spliced ((false, x) :: rest)) Q E s := by
  rw [spliced]
  refine wpC_bind (wpC_mono h (fun v s₁ h₁ => ?_) fun _ _ x => x)
  simp only [Bool.false_eq_true, if_false]
  exact wpC_bind (wpC_pure (wpC_bind (wpC_holding (wpC_mono h₁ (fun vs s₂ h₂ => wpC_pure h₂) fun _ _ x => x))))
theorem wpC_args_nil {pos : Pos} {Q : List Value → Shared → Prop} (h : Q [] s) : wpC M A (spliced (backTo pos (starEach [] env))) Q E s := wpC_of (PySem.Calls.spliced_nil h)
theorem wpC_args_cons {e : PySem.Expr} {rest : List PySem.Expr} {pos : Pos} {Q : List Value → Shared → Prop}
    (h : wpC M A (eval e env) (fun v s₁ => wpC M A (spliced (backTo pos (starEach rest env))) (fun vs s₂ => Q (v :: vs) s₂) E s₁) E s)
    (he : starEach (e :: rest) env = (false, eval e env) :: starEach rest env := by rfl) : wpC M A (spliced (backTo pos (starEach (e :: rest) env))) Q E s := by
  rw [he]; exact wpC_spliced_cons h
theorem wpC_evalArgs {f : Value} {x : Sem Value} {rest : List (Bool × Sem Value)} {Q : Args → Shared → Prop}
    (h : wpC M A (spliced ((false, x) :: rest)) (fun vs s' => Q ⟨vs, []⟩ s') E s) : wpC M A (evalArgs f true ((false, x) :: rest) []) Q E s := by
  unfold evalArgs
  show wpC M A (spliced ((false, x) :: rest) >>= _) Q E s
  refine wpC_bind (wpC_mono h (fun vs s' h' => ?_) fun _ _ x => x)
  exact wpC_holding (wpC_bind (wpC_pure (wpC_bind (wpC_pure (wpC_pure h')))))
theorem wpC_callWith_of {P : Heap → Prop} {f : Value} {first : List Value} {pos : Pos} {args : List (Bool × Sem Value)} {Q : Value → Shared → Prop} (hplain : args.any (·.1) = false)
    (hk : ∀ h, P h → ∃ k, (k = Keeper.frame ∨ k = Keeper.machine ∨ k = Keeper.boundFrame) ∧ Looks M h (keeperOf f) k)
    (h : wpC M A (evalArgs f true args []) (fun a s₁ => P s₁.heap ∧ wpC M A (call f (first ++ a.pos) a.kw) Q E s₁) E s) : wpC M A (callWith pos f first args []) Q E s := by
  unfold callWith
  refine wpC_bind (wpC_holding (wpC_mono h (fun a s₁ h₁ => wpC_standAt ?_) fun _ _ x => x))
  obtain ⟨k, hk', L⟩ := hk _ h₁.1
  simp only [hplain, List.any_nil, Bool.or_false]
  refine wpC_bind ?_
  refine wpC_of (L.here ?_)
  have tail : ∀ {t : Sem Value}, wpC M A t Q E s₁ → wpC M A (t >>= fun r => holding [r] point >>= fun _ => pure r) Q E s₁ :=
    fun ht => wpC_bind (wpC_mono ht (fun r s₂ hr => wpC_of (wpAny_bind (wpAny_holding (wpAny_point (wpAny_pure hr))))) fun _ _ x => x)
  have marked (mk : Value) : wpC M A (callMarked mk f (first ++ a.pos) a.kw) Q E s₁ := by unfold callMarked; exact wpC_keep h₁.2
  rcases hk' with rfl | rfl | rfl <;> dsimp only <;> first | exact tail h₁.2 | (split <;> first | exact tail h₁.2 | exact tail (marked _))
theorem wpC_callWith_K {K : Frag} {f : Value} {first : List Value} {pos : Pos} {e : PySem.Expr} {rest : List PySem.Expr} {Q : Value → Shared → Prop} (hk : keepIn K f = true)
    (h : wpC M A (spliced (backTo pos (starEach (e :: rest) env))) (fun vs s₁ => K.In s₁.heap ∧ wpC M A (call f (first ++ vs)) Q E s₁) E s)
    (he : starEach (e :: rest) env = (false, eval e env) :: starEach rest env := by rfl) (hplain : (backTo pos (starEach rest env)).any (·.1) = false := by rfl) :
    wpC M A (callWith pos f first (backTo pos (starEach (e :: rest) env)) []) Q E s := by
  rw [he] at h ⊢
  exact wpC_callWith_of (by show (false || (backTo pos (starEach rest env)).any (·.1)) = false; rw [hplain]; rfl) (keeps_K hk) (wpC_evalArgs h)
theorem wpC_callWith_K0 {K : Frag} {f : Value} {first : List Value} {pos : Pos} {Q : Value → Shared → Prop} (X : K.In s.heap) (hk : keepIn K f = true) (h : wpC M A (call f (first ++ [])) Q E s) : wpC M A (callWith pos f first (backTo pos (starEach [] env)) []) Q E s :=
  wpC_callWith_of rfl (keeps_K hk) (wpC_of (evalArgs_nil3 ⟨X, h⟩))
theorem wpC_callWith_b {id : String} {first : List Value} {pos : Pos} {args : List (Bool × Sem Value)} {Q : Value → Shared → Prop} (hplain : args.any (·.1) = false)
    (h : wpC M A (evalArgs (.builtin id) true args []) (fun a s₁ => wpC M A (call (.builtin id) (first ++ a.pos) a.kw) Q E s₁) E s) : wpC M A (callWith pos (.builtin id) first args []) Q E s := by
  unfold callWith
  refine wpC_bind (wpC_holding (wpC_mono h (fun a s₁ h₁ => wpC_standAt ?_) fun _ _ x => x))
  simp only [hplain, List.any_nil, Bool.or_false]
  refine wpC_bind ?_
  refine wpC_pure ?_
  refine wpC_bind (wpC_mono h₁ (fun r s₂ hr => wpC_of (wpAny_bind (wpAny_holding (wpAny_point (wpAny_pure hr))))) fun _ _ x => x)
theorem wpC_callWith_builtin {id : String} {first : List Value} {pos : Pos} {e : PySem.Expr} {rest : List PySem.Expr} {Q : Value → Shared → Prop}
    (h : wpC M A (spliced (backTo pos (starEach (e :: rest) env))) (fun vs s₁ => wpC M A (call (.builtin id) (first ++ vs)) Q E s₁) E s)
    (he : starEach (e :: rest) env = (false, eval e env) :: starEach rest env := by rfl) (hplain : (backTo pos (starEach rest env)).any (·.1) = false := by rfl) :
    wpC M A (callWith pos (.builtin id) first (backTo pos (starEach (e :: rest) env)) []) Q E s := by
  rw [he] at h ⊢
  exact wpC_callWith_b (by show (false || (backTo pos (starEach rest env)).any (·.1)) = false; rw [hplain]; rfl) (wpC_evalArgs h)
theorem wpC_List {elts : List PySem.Expr} {pos : Pos} {Q : Value → Shared → Prop}
    (h : wpC M A (spliced (backTo pos (starEach elts env))) (fun vs s₁ => wpC M A (newList vs) Q E s₁) E s) : wpC M A (eval (.List elts pos) env) Q E s := by
  show wpC M A (do standAt pos; newList (← spliced (backTo pos (starEach elts env)))) Q E s
  exact wpC_standAt (wpC_bind h)
theorem wpC_runOwn {c : Code} {Q : Flow → Shared → Prop}
    (hc : codeC M A c (fun r s' => match r with | .ok f => Q f s' | .error e => cameBackBy M A env E e s') s) : wpC M A (runOwn c env none) Q E s := by
  unfold runOwn
  exact wpC_onRaise (wpC_mono (wpC_run (h := none) (by rw [show A.mark none = A from rfl]; exact hc)) (fun _ _ e => e) fun _ _ e => wpC_of e)
theorem wpC_While {test : PySem.Expr} {body orelse : List Stmt} {pos : Pos} {Q : Flow → Shared → Prop}
    (h : codeC M A (.whileLoop test body orelse env) (fun r s' => match r with | .ok f => Q f s' | .error e => cameBackBy M A env E e s') s) : wpC M A (exec (.While test body orelse pos) env) Q E s := by
  rw [exec_While]; exact wpC_standAt (wpC_runOwn h)
theorem wpC_For {target iter : PySem.Expr} {body orelse : List Stmt} {pos : Pos} {Q : Flow → Shared → Prop}
    (h : wpAny M A (eval iter env) (fun x s₁ => wpAny M A (pyIter x) (fun it s₂ =>
      codeC M A (.forLoop target it body orelse env) (fun r s' => match r with | .ok f => Q f s' | .error e => cameBackBy M A env E e s') s₂) E s₁) E s)
    (hs : ∀ x, foldedSetIterable iter env x = pure x := by intro _; rfl) : wpC M A (exec (.For target iter body orelse pos) env) Q E s := by
  rw [exec_For]
  exact wpC_standAt (wpC_bind (wpC_of (wpAny_mono h (fun x s₁ h₁ => wpC_bind (wpC_of (wpAny_of_eq (hs x) (wpC_standAt (wpC_bind (wpC_holding (wpC_of
    (wpAny_mono h₁ (fun it s₂ h₂ => wpC_runOwn h₂) fun _ _ h' => h')))))))) fun _ _ h' => h')))
theorem wpC_Try {body orelse : List Stmt} {h₀ : ExceptHandler} {hs : List ExceptHandler} {pos : Pos} {Q : Flow → Shared → Prop}
    (h : wpC M A (execs body env) (fun f s₁ => match f with | .next => wpC M A (execs orelse env) Q E s₁ | f => Q f s₁)
      (fun e s₁ => wpAny M A (noteFrame e env) (fun _ s₂ => wpAny M A (setFlight e none) (fun _ s₃ => wpAny M A (handleBy e env (h₀ :: hs)) Q E s₃) E s₂) E s₁) s) :
    wpC M A (exec (.Try body (h₀ :: hs) orelse [] pos) env) Q E s := by
  rw [arm_exec_Try]
  refine wpC_standAt ?_
  unfold tryStmt
  simp only [List.isEmpty_nil, if_true, List.isEmpty_cons, Bool.false_and, Bool.false_eq_true, if_false]
  refine wpC_bind ?_
  intro Γ p hΓ h1 h2
  rw [Sem.wp_attempt]
  refine Sem.wp_mono _ _ _ (fun f p' s₁ h₁ => ?_) (fun e p' s₁ h₁ => ?_) _ _ (h Γ p hΓ h1 h2)
  · cases f <;> first | exact h₁ | exact wpC_pure h₁
  · exact wpC_of (wpAny_bind (wpAny_mono h₁ (fun _ _ h₂ => wpAny_bind h₂) fun _ _ x => x))
end
section
variable {prog : Program} {w : World} {A : Around} {E : Value → Shared → Prop} {R : Result → Shared → Prop} {s : Shared} {env : Env}
/-- one turn of a while, whose test holds -/
theorem codeC_whileTurn {test : PySem.Expr} {body orelse : List Stmt}
    (h : wpC (model prog w) A (isTrue test env (eval test env)) (fun b s₂ =>
        if b then wpC (model prog w) A (execs body env) (fun f s₃ => match f with
            | .next | .cont => codeC (model prog w) A (.whileLoop test body orelse env) R s₃
            | .brk => R (.ok .next) s₃
            | .ret v => R (.ok (.ret v)) s₃) (fun _ _ => False) s₂
        else wpC (model prog w) A (execs orelse env) (fun f s₃ => R (.ok f) s₃) (fun _ _ => False) s₂) (fun _ _ => False) s) :
    codeC (model prog w) A (.whileLoop test body orelse env) R s := by
  refine codeC_of_tree rfl ?_
  show wpC _ A ((whileTurn test body orelse env).onRaise (fun x => do noteFrame x env; theTreesLotGoes x)) _ _ s
  refine wpC_onRaise (wpC_mono (E := fun _ _ => False) ?_ (fun _ _ q => q) fun _ _ q => q.elim)
  simp only [whileTurn]
  refine wpC_bind (wpC_mono h (fun b s₂ h₂ => ?_) fun _ _ h' => h')
  cases b with
  | false =>
    simp only [Bool.false_eq_true, if_false] at h₂ ⊢
    exact wpC_bind (wpC_mono h₂ (fun f s₃ h₃ => wpC_pure h₃) fun _ _ h' => h')
  | true =>
    simp only [if_true] at h₂ ⊢
    refine wpC_bind (wpC_mono h₂ (fun f s₃ h₃ => ?_) fun _ _ h' => h')
    cases f with
    | next => exact wpC_pure ⟨rfl, h₃⟩
    | cont => exact wpC_pure ⟨rfl, h₃⟩
    | brk => exact wpC_pure h₃
    | ret v => exact wpC_pure h₃
/-- one turn of a for -/
theorem codeC_forTurn {target : PySem.Expr} {it : Value} {body : List Stmt}
    (h : wpAny (model prog w) A (pyNext it) (fun r s₁ => match r with
      | none => R (.ok .next) s₁
      | some v => wpAny (model prog w) A (assign target env v) (fun _ s₂ => wpC (model prog w) A (execs body env) (fun f s₃ => match f with
          | .next | .cont => codeC (model prog w) A (.forLoop target it body [] env) R s₃
          | .brk => R (.ok .next) s₃
          | .ret v => R (.ok (.ret v)) s₃) (fun _ _ => False) s₂) (fun _ _ => False) s₁) (fun _ _ => False) s)
    (ht : ∀ v (Q : Unit → Shared → Prop) s', Q () s' → wpAny (model prog w) A (letOwnedTupleGo target it v) Q (fun _ _ => False) s') : codeC (model prog w) A (.forLoop target it body [] env) R s := by
  refine codeC_of_tree rfl ?_
  show wpC _ _ ((forTurn target it body [] env).onRaise (fun x => do noteFrame x env; theTreesLotGoes x)) _ _ s
  refine wpC_onRaise (wpC_mono (E := fun _ _ => False) ?_ (fun _ _ q => q) fun _ _ q => q.elim)
  simp only [forTurn]
  refine wpC_standAt (wpC_bind (wpC_of (wpAny_onRaise (wpAny_mono h (fun r s₁ h₁ => ?_) fun _ _ h' => h'.elim))))
  cases r with
  | none => exact wpC_pure ⟨rfl, codeC_of (codeAny_block (wpAny_execs_nil h₁))⟩
  | some v =>
    refine wpC_bind ?_
    refine wpC_of (ht v _ _ ?_)
    refine wpC_bind (wpC_of (wpAny_mono h₁ (fun _ s₂ h₂ => wpC_bind (wpC_mono h₂ (fun f s₃ h₃ => ?_) fun _ _ h' => h')) fun _ _ h' => h'))
    cases f with
    | next => exact wpC_pure ⟨rfl, h₃⟩
    | cont => exact wpC_pure ⟨rfl, h₃⟩
    | brk => exact wpC_pure h₃
    | ret v => exact wpC_pure h₃
end

theorem ba_mro : mroOf (.type "bytearray") = pure [.type "bytearray", .type "object"] := by rw [mroOf_type]; kernel_rfl
theorem ba_lookup_new : typeLookup (.type "bytearray") "__new__" = pure (some (.builtin "bytearray.__new__")) := by rw [typeLookup_type, builtinLookup_eq_fast]; kernel_rfl
theorem ba_slot_init : Slot "bytearray" "__init__" "bytearray.__init__" :=
  .of (owner := "bytearray") (n := "__init__") (by rw [typeLookup_type, builtinLookup_eq_fast]; kernel_rfl) (by decide +kernel) (by decide +kernel) (by decide +kernel)
    (by first | exact .inl (by decide +kernel) | exact .inr (by decide +kernel)) (by rw [isSubtype_type]; kernel_rfl)
theorem ba_called : TypeCalled "bytearray" "bytearray.__new__" "bytearray.__init__" :=
  ⟨by decide +kernel, by decide +kernel, ⟨_, _, ba_mro⟩, madeBy_type ba_mro ba_lookup_new (by decide +kernel), by decide +kernel, by rw [isSubtype_type]; kernel_rfl, ba_slot_init⟩
theorem ba_typeCall0 : checkTypeCall "bytearray" ⟨[], []⟩ = pure () := by kernel_rfl
theorem ba_typeCall1 (a : Value) : checkTypeCall "bytearray" ⟨[a], []⟩ = pure () := by kernel_rfl
theorem ba_newCall0 : checkBuiltinCall "bytearray.__new__" ⟨[.type "bytearray"], []⟩ = pure () := by kernel_rfl
theorem ba_newCall1 (a : Value) : checkBuiltinCall "bytearray.__new__" ⟨[.type "bytearray", a], []⟩ = pure () := by kernel_rfl
theorem ba_plain : plainId "bytearray.__new__" = true := by decide +kernel
theorem ba_entry_new : entryFor table "bytearray.__new__" = some Builtin.«list.__new__» := entryFor_alias (id' := "list.__new__") (by kernel_rfl) (by decide +kernel) (by decide +kernel) (by kernel_rfl)
theorem ba_entry_init : entryFor table "bytearray.__init__" = some Builtin.«bytearray.__init__» := by first | exact entryFor_of_fast (by kernel_rfl) | exact entryFor_of_tree (by kernel_rfl)
theorem ba_entry_append : entryFor table "bytearray.append" = some Builtin.«bytearray.append» := by first | exact entryFor_of_fast (by kernel_rfl) | exact entryFor_of_tree (by kernel_rfl)
set_option maxRecDepth 1000000 in
theorem ba_owner : ("bytearray.__new__".splitOn ".__new__").headD "" = "bytearray" := by simp +decide [String.splitOn, String.splitOnAux]
theorem ba_sub : isSubtype (.type "bytearray") (.type "bytearray") = pure true := by rw [isSubtype_type]; kernel_rfl
theorem ba_release : typeLookup (.type "bytearray") "__release_buffer__" = pure (some (.builtin "bytearray.__release_buffer__")) := by rw [typeLookup_type, builtinLookup_eq_fast]; kernel_rfl
theorem ba_buffer : typeLookup (.type "bytearray") "__buffer__" = pure (some (.builtin "bytearray.__buffer__")) := by rw [typeLookup_type, builtinLookup_eq_fast]; kernel_rfl
theorem by_buffer : typeLookup (.type "bytes") "__buffer__" = pure (some (.builtin "bytes.__buffer__")) := by rw [typeLookup_type, builtinLookup_eq_fast]; kernel_rfl
theorem ba_no_index : typeLookup (.type "bytearray") "__index__" = pure none := by rw [typeLookup_type, builtinLookup_eq_fast]; kernel_rfl
theorem ba_no_bytes : typeLookup (.type "bytearray") "__bytes__" = pure none := by rw [typeLookup_type, builtinLookup_eq_fast]; kernel_rfl
theorem by_no_index : typeLookup (.type "bytes") "__index__" = pure none := by rw [typeLookup_type, builtinLookup_eq_fast]; kernel_rfl
theorem by_release : typeLookup (.type "bytes") "__release_buffer__" = pure none := by rw [typeLookup_type, builtinLookup_eq_fast]; kernel_rfl
theorem ba_ends : "bytearray.__release_buffer__".endsWith ("." ++ "__release_buffer__") = true := by decide +kernel
theorem ba_ends2 : "bytearray.__buffer__".endsWith ("." ++ "__buffer__") = true := by decide +kernel
theorem ba_drop : "bytearray.__release_buffer__".dropRight ("__release_buffer__".length + 1) = "bytearray" := by decide +kernel
theorem ba_drop2 : "bytearray.__buffer__".dropRight ("__buffer__".length + 1) = "bytearray" := by decide +kernel
theorem by_ends2 : "bytes.__buffer__".endsWith ("." ++ "__buffer__") = true := by decide +kernel
theorem by_drop2 : "bytes.__buffer__".dropRight ("__buffer__".length + 1) = "bytes" := by decide +kernel
theorem by_sub : isSubtype (.type "bytes") (.type "bytes") = pure true := by rw [isSubtype_type]; kernel_rfl
theorem ba_bind0 : Builtin.Bytes.bindOptional "bytearray.__init__" "bytearray" ["source", "encoding", "errors"] [] [] = pure [none, none, none] := by kernel_rfl
theorem ba_bind1 (v : Value) : Builtin.Bytes.bindOptional "bytearray.__init__" "bytearray" ["source", "encoding", "errors"] [v] [] = pure [some v, none, none] := by kernel_rfl
theorem ba_ga : typeLookup (.type "bytearray") "__getattribute__" = pure (some (.builtin "bytearray.__getattribute__")) := by rw [typeLookup_type, builtinLookup_eq_fast]; kernel_rfl
theorem ba_can : (Manifest.canonical "bytearray.__getattribute__" != "object.__getattribute__") = false := by decide +kernel
theorem ba_no_hook : typeLookup (.type "bytearray") "__getattr__" = pure none := by rw [typeLookup_type, builtinLookup_eq_fast]; kernel_rfl
theorem ba_append : typeLookup (.type "bytearray") (PySem.Str.ofString "append") = pure (some (.builtin "bytearray.append")) := by rw [typeLookup_type, builtinLookup_eq_fast]; kernel_rfl
theorem ba_append_ty : typeOf (.builtin "bytearray.append") = pure (.type "method_descriptor") := by kernel_rfl
theorem ba_append_slot : Slot "bytearray" "append" "bytearray.append" :=
  .of (owner := "bytearray") (n := "append") (by rw [typeLookup_type, builtinLookup_eq_fast]; kernel_rfl) (by decide +kernel) (by decide +kernel) (by decide +kernel)
    (by first | exact .inl (by decide +kernel) | exact .inr (by decide +kernel)) (by rw [isSubtype_type]; kernel_rfl)
section
variable {prog : Program} {w : World} {A : Around} {E : Value → Shared → Prop} {s : Shared}
abbrev baO (b : Array UInt8) : Obj := { cls := .type "bytearray", data := .bytearray b }
theorem code_ba_new {rest : List Value} {Q₁ : Value → Shared → Prop} (hc : checkBuiltinCall "bytearray.__new__" ⟨.type "bytearray" :: rest, []⟩ = pure ())
    (h : Q₁ (.ref s.heap.objs.size) { s with heap := s.heap.push (baO #[]) }) :
    codeAny (model prog w) A (.call (.builtin "bytearray.__new__") ⟨.type "bytearray" :: rest, []⟩) (wants Q₁ E) s := by
  refine codeAny_of_tree ?_
  show wpAny _ A.in1 (do checkBuiltinCall "bytearray.__new__" ⟨.type "bytearray" :: rest, []⟩; again (.builtin "bytearray.__new__" ⟨.type "bytearray" :: rest, []⟩)) _ _ s
  refine wpAny_bind (wpAny_of_eq hc (wpAny_pure ⟨plainId_quiet ba_plain _, codeAny_builtin_stack ba_entry_new rfl fun p st => ?_⟩))
  rw [Around.under_plainId ba_plain _]
  have hsub := ba_sub
  have hown := ba_owner
  obtain ⟨hp, g, d, tk, os⟩ := s
  simp only [hown]
  wp_walk
  exact h
theorem slotOwn_ba {v : Value} {T : String} {name : String} {id : String} {Q : Bool → Shared → Prop} (hT : s.TypeIs v T) (hl : typeLookup (.type T) (name : PySem.Str) = pure (some (.builtin id)))
    (he : id.endsWith ("." ++ name) = true) (hd : id.dropRight (name.length + 1) = T) (hb : isSubtype (.type T) (.type T) = pure true) (h : Q true s) : wpAny (model prog w) A (Builtin.Bytes.slotIsOwn v name) Q E s := by
  unfold Builtin.Bytes.slotIsOwn
  refine wpAny_bind ?_
  refine wpAny_specialOf hT hl ?_
  dsimp only
  rw [he, hd]
  exact wpAny_isInstance hT hb h
theorem ownRelease_ba {a : Addr} {Q : Bool → Shared → Prop} (hT : s.TypeIs (.ref a) "bytearray") (h : Q false s) : wpAny (model prog w) A (Builtin.Bytes.ownRelease (.ref a)) Q E s := by
  unfold Builtin.Bytes.ownRelease
  exact wpAny_bind (slotOwn_ba hT ba_release ba_ends ba_drop ba_sub (wpAny_pure h))
theorem write_ba {a : Addr} {b : Array UInt8} {f : Array UInt8 → Array UInt8} {Q : Unit → Shared → Prop} (hs : s.heap.get? a = some (baO b)) (hz : (f b).size ≤ sizeLine) (h : Q () { s with heap := s.heap.update a (Obj.mapBytearray f) }) :
    wpAny (model prog w) A (Builtin.Bytes.write (.ref a) f) Q E s := by
  show wpAny _ _ (updateBytearray a f) _ _ _
  unfold updateBytearray
  refine wpAny_bind ?_
  refine wpAny_load hs ?_
  show wpAny _ _ (update a (Obj.mapBytearray f) >>= fun _ => lookBehind a) _ _ _
  refine wpAny_bind ?_
  refine wpAny_update hs ?_
  have hS₂ : (s.heap.update a (Obj.mapBytearray f)).get? a = some (baO (f b)) := Heap.get?_update_self (Obj.mapBytearray f) hs rfl
  refine wpAny_lookBehind hS₂ ?_ h
  show (if (f b).size > sizeLine then some "bytearray:memory" else none) = none
  rw [if_neg (by omega)]
theorem exports_ba {a : Addr} {b : Array UInt8} {Q : Nat → Shared → Prop} (hs : s.heap.get? a = some (baO b)) (h : Q 0 s) : wpAny (model prog w) A (Builtin.Bytes.exportsOf (.ref a)) Q E s := by
  unfold Builtin.Bytes.exportsOf
  exact wpAny_bind (wpAny_load hs (wpAny_pure h))
theorem wpC_if_false {α : Type} {M : Model} {c : Bool} {a b : Sem α} {Q : α → Shared → Prop} (hc : c = false) (h : wpC M A b Q E s) : wpC M A (if c = true then a else b) Q E s := by subst hc; exact h
theorem upd_ba {h : Heap} {a : Addr} {b : Array UInt8} {f : Array UInt8 → Array UInt8} (hs : h.get? a = some (baO b)) : (h.update a (Obj.mapBytearray f)).get? a = some (baO (f b)) := Heap.get?_update_self (Obj.mapBytearray f) hs rfl
theorem notExported {a : Addr} {b : Array UInt8} {Q : Bool → Shared → Prop} (hs : s.heap.get? a = some (baO b)) (h : Q false s) :
    wpC (model prog w) A (Builtin.Bytes.exported (.ref a) <||> (do return (← Builtin.Bytes.exportsOf (.ref a)) > 0)) Q E s := by
  unfold orM
  refine wpC_bind ?_
  refine wpC_exported ?_
  exact wpC_of (wpAny_bind (exports_ba hs (wpAny_pure h)))
theorem buffer_by {id : String} {src : Array UInt8} {t : Tok} {full : Bool} {Q : Option (Array UInt8) → Shared → Prop} (hB : s.TypeIs (.bytes src t) "bytes") (h : Q (some src) s) : wpAny (model prog w) A (Builtin.Bytes.buffer? id (.bytes src t) full) Q E s := by
  unfold Builtin.Bytes.buffer?
  refine wpAny_bind ?_
  refine wpAny_specialOf hB by_buffer ?_
  try dsimp only
  refine wpAny_bind (slotOwn_ba hB by_buffer by_ends2 by_drop2 by_sub ?_)
  refine bm_if_false rfl ?_
  refine wpAny_bind ?_
  refine wpAny_specialOf hB by_buffer ?_
  try dsimp only
  refine wpAny_bind ?_
  unfold Builtin.Bytes.ownRelease Builtin.Bytes.slotIsOwn
  refine wpAny_bind ?_
  refine wpAny_bind ?_
  refine wpAny_specialOf hB by_release ?_
  refine wpAny_pure ?_
  refine wpAny_pure ?_
  refine bm_if_false rfl ?_
  exact wpAny_bind (wpAny_bind (wpAny_pure (wpAny_pure (wpAny_pure h))))
theorem buffer_ba {id : String} {a : Addr} {b : Array UInt8} {full : Bool} {Q : Option (Array UInt8) → Shared → Prop} (hs : s.heap.get? a = some (baO b)) (h : Q (some b) s) : wpAny (model prog w) A (Builtin.Bytes.buffer? id (.ref a) full) Q E s := by
  have hT : s.TypeIs (.ref a) "bytearray" := ⟨_, hs, rfl⟩
  unfold Builtin.Bytes.buffer?
  refine wpAny_bind ?_
  refine wpAny_specialOf hT ba_buffer ?_
  try dsimp only
  refine wpAny_bind (slotOwn_ba hT ba_buffer ba_ends2 ba_drop2 ba_sub ?_)
  refine bm_if_false rfl ?_
  refine wpAny_bind ?_
  refine wpAny_specialOf hT ba_buffer ?_
  try dsimp only
  refine wpAny_bind (ownRelease_ba hT ?_)
  refine bm_if_false rfl ?_
  refine wpAny_bind ?_
  unfold Builtin.Bytes.payload Builtin.Bytes.payload?
  exact wpAny_bind (wpAny_bind (wpAny_load hs (wpAny_pure (wpAny_pure (wpAny_pure h)))))
theorem init_ba0 {a : Addr} {b : Array UInt8} {Q : Fin → Shared → Prop} (hs : s.heap.get? a = some (baO b)) (h : Q (.done (.ret .none)) { s with heap := s.heap.update a (Obj.mapBytearray fun _ => #[]) }) :
    wpC (model prog w) A (Builtin.«bytearray.__init__» ⟨[.ref a], []⟩) Q E s := by
  have hT : s.TypeIs (.ref a) "bytearray" := ⟨_, hs, rfl⟩
  unfold Builtin.«bytearray.__init__»
  dsimp only
  refine wpC_bind ?_
  refine wpC_of (ownRelease_ba hT ?_)
  refine wpC_if_false rfl ?_
  refine wpC_bind ?_
  refine wpC_of ?_
  refine wpAny_of_eq ba_bind0 ?_
  refine wpC_bind ?_
  refine wpC_of ?_
  refine wpAny_of_eq (a := ()) rfl ?_
  refine wpC_bind ?_
  refine wpC_of ?_
  refine wpAny_of_eq (a := ()) rfl ?_
  refine wpC_bind (notExported hs ?_)
  refine wpC_if_false rfl ?_
  refine wpC_bind ?_
  refine wpC_of ?_
  refine write_ba hs (Nat.zero_le _) ?_
  exact wpC_pure h
theorem init_ba1 {a : Addr} {b src : Array UInt8} {t : Tok} {Q : Fin → Shared → Prop} (hs : s.heap.get? a = some (baO b)) (hz : src.size ≤ sizeLine)
    (h : Q (.done (.ret .none)) { s with heap := (s.heap.update a (Obj.mapBytearray fun _ => #[])).update a (Obj.mapBytearray fun _ => src) }) :
    wpC (model prog w) A (Builtin.«bytearray.__init__» ⟨[.ref a, .bytes src t], []⟩) Q E s := by
  have hT : s.TypeIs (.ref a) "bytearray" := ⟨_, hs, rfl⟩
  have hB : ∀ s : Shared, s.TypeIs (.bytes src t) "bytes" := fun s => typeIs_bytes s _ _
  unfold Builtin.«bytearray.__init__»
  dsimp only
  refine wpC_bind ?_
  refine wpC_of (ownRelease_ba hT ?_)
  refine wpC_if_false rfl ?_
  refine wpC_bind ?_
  refine wpC_of ?_
  refine wpAny_of_eq (ba_bind1 _) ?_
  refine wpC_bind ?_
  refine wpC_of ?_
  refine wpAny_of_eq (a := ()) rfl ?_
  refine wpC_bind ?_
  refine wpC_of ?_
  refine wpAny_of_eq (a := ()) rfl ?_
  refine wpC_bind (notExported hs ?_)
  refine wpC_if_false rfl ?_
  refine wpC_bind ?_
  refine wpC_of ?_
  refine write_ba hs (Nat.zero_le _) ?_
  have hs₂ := upd_ba (f := fun _ => #[]) hs
  refine wpC_bind ?_
  refine wpC_of ?_
  refine wpAny_of_eq (a := none) rfl ?_
  refine wpC_if_false rfl ?_
  refine wpC_bind ?_
  refine wpC_of ?_
  refine wpAny_of_eq (a := ()) rfl ?_
  refine wpC_bind ?_
  refine wpC_of ?_
  refine wpAny_specialOf (hB _) by_no_index ?_
  refine wpC_if_false rfl ?_
  refine wpC_bind ?_
  refine wpC_of ?_
  refine buffer_by (hB _) (wpC_bind (wpC_of (wpAny_rule ?_)))
  exact wpC_bind (wpC_of (write_ba hs₂ hz (wpC_pure h)))
theorem append_ba {a : Addr} {b : Array UInt8} {i : Int} {t : Tok} {Q : Fin → Shared → Prop} (hs : s.heap.get? a = some (baO b)) (h0 : 0 ≤ i) (h1 : i < 256) (hz : b.size < sizeLine)
    (h : Q (.done (.ret .none)) { s with heap := s.heap.update a (Obj.mapBytearray (·.push i.toNat.toUInt8)) }) :
    wpC (model prog w) A (Builtin.«bytearray.append» ⟨[.ref a, .int i t], []⟩) Q E s := by
  unfold Builtin.«bytearray.append»
  refine wpC_bind ?_
  refine wpC_of ?_
  refine wpAny_of_eq (a := (.ref a, .int i t)) rfl ?_
  dsimp only
  refine wpC_bind ?_
  refine wpC_of ?_
  unfold Builtin.Bytes.byteValue
  refine wpAny_bind ?_
  refine wpAny_of_eq (a := i) rfl ?_
  refine bm_if_false (by simp only [Bool.or_eq_false_iff, decide_eq_false_iff_not]; omega) ?_
  refine wpAny_pure ?_
  refine wpC_bind ?_
  unfold Builtin.Bytes.checkResize
  refine wpC_bind (notExported hs ?_)
  refine wpC_if_false rfl ?_
  refine wpC_pure (wpC_bind (wpC_of (write_ba hs (by rw [Array.size_push]; omega) ?_)))
  exact wpC_pure h
theorem codeC_call_builtin {id : String} {args : Args} {b : Builtin} {R : Result → Shared → Prop} (hq : plainId id = true) (hk : holdIds.contains id = false) (hb : entryFor table id = some b)
    (h : wpAny (model prog w) A.in1 (checkBuiltinCall id args) (fun _ s₁ => wpC (model prog w) A.in1 (b args) (TurnC (model prog w) A R) (fun e s' => R (.error e) s') s₁) (fun e s' => R (.error e) s') s) : codeC (model prog w) A (.call (.builtin id) args) R s := by
  refine codeC_of_tree rfl (wpC_of ?_)
  show wpAny _ A.in1 (do checkBuiltinCall id args; again (.builtin id args)) _ _ s
  refine wpAny_bind (wpAny_mono h (fun _ s₁ h₁ => wpAny_pure ⟨plainId_quiet hq _, codeC_of_tree (by show (!holdIds.contains id) = true; rw [hk]; rfl) ?_⟩) fun _ _ h' => h')
  rw [Around.under_plainId hq args]
  show wpC _ _ (match entryFor table id with | some b => b args | none => unsupported ((withoutEnding? id "#data").getD id)) _ _ s₁
  rw [hb]; exact h₁
theorem codeC_builtin {id : String} {args : Args} {b : Builtin} {R : Result → Shared → Prop} (hk : holdIds.contains id = false) (hb : entryFor table id = some b)
    (h : wpC (model prog w) (A.under (.builtin id args)) (b args) (TurnC (model prog w) A R) (fun e s' => R (.error e) s') s) : codeC (model prog w) A (.builtin id args) R s := by
  refine codeC_of_tree (by show (!holdIds.contains id) = true; rw [hk]; rfl) ?_
  show wpC _ _ (match entryFor table id with | some b => b args | none => unsupported ((withoutEnding? id "#data").getD id)) _ _ s
  rw [hb]; exact h
theorem typeCall_ba {rest : List Value} {Q : Value → Shared → Prop} (hct : checkTypeCall "bytearray" ⟨rest, []⟩ = pure ()) (hcn : checkBuiltinCall "bytearray.__new__" ⟨.type "bytearray" :: rest, []⟩ = pure ()) (hok : ∀ obj, argsOk "bytearray.__init__" ⟨obj :: rest, []⟩)
    (h : wpC (model prog w) A.in1.in1 (Builtin.«bytearray.__init__» ⟨.ref s.heap.objs.size :: rest, []⟩) (fun fin s' => fin = .done (.ret .none) ∧ Q (.ref s.heap.objs.size) s') (fun _ _ => False) { s with heap := s.heap.push (baO #[]) }) :
    wpC (model prog w) A (call (.type "bytearray") rest) Q E s := by
  obtain ⟨c, tl, hmro⟩ := ba_called.mro
  refine wpC_call (codeC_of_tree rfl (wpC_of ?_))
  show wpAny _ _ (callAny (.type "bytearray") _) _ _ _
  refine wpAny_pure ⟨Code.quiet_builtin _ (by decide +kernel), codeC_builtin (by decide +kernel) PySem.F.entry_type_call ?_⟩
  rw [Around.under_plain (weight_type_call_type "bytearray" rest []) rfl]
  dsimp only
  unfold Builtin.«type.__call__»
  dsimp only
  rw [ba_called.notType]
  refine wpC_if_false rfl ?_
  rw [ba_called.canCreate]
  refine wpC_if_false rfl ?_
  refine wpC_bind ?_
  refine wpC_of ?_
  refine wpAny_of_eq hct ?_
  refine wpC_bind ?_
  refine wpC_of ?_
  refine wpAny_of_eq hmro ?_
  refine wpC_if_false rfl ?_
  refine wpC_bind ?_
  refine wpC_of ?_
  refine wpAny_of_eq ba_called.made ?_
  dsimp only
  refine wpC_bind ?_
  refine wpC_pure ?_
  refine wpC_bind (wpC_holding (wpC_of (wpAny_call (codeAny_mono (code_ba_new (Q₁ := fun v s' => v = .ref s.heap.objs.size ∧ s' = { s with heap := s.heap.push (baO #[]) }) (E := fun _ _ => False) hcn ⟨rfl, rfl⟩) fun r s₁ hr => ?_))))
  have hT : ({ s with heap := s.heap.push (baO #[]) } : Shared).TypeIs (.ref s.heap.objs.size) "bytearray" := ⟨_, Heap.get?_push_size _ rfl, rfl⟩
  cases r with
  | error e => exact hr.elim
  | ok fl =>
    cases fl with
    | ret obj =>
      obtain ⟨rfl, rfl⟩ := hr
      refine wpC_bind ?_
      refine wpC_of ?_
      refine wpAny_isInstance hT ba_sub ?_
      refine wpC_if_false rfl ?_
      refine wpC_bind ?_
      refine wpC_holding ?_
      unfold callSpecial?
      refine wpC_bind ?_
      refine wpC_of ?_
      refine wpAny_specialOf hT ba_slot_init.lookup ?_
      dsimp only
      refine wpC_holding ?_
      refine wpC_bind ?_
      refine wpC_of ?_
      refine wpAny_of_eq (ba_slot_init.bind _) ?_
      dsimp only
      refine wpC_bind ?_
      refine wpC_call (codeC_call_builtin ba_slot_init.plain (by decide +kernel) ba_entry_init (ba_slot_init.check _ _ _ _ _ _ _ _ hT (hok _) ?_))
      refine wpC_mono h (fun fin s' hf => ?_) (fun _ _ q => q.elim)
      obtain ⟨rfl, hf⟩ := hf
      exact wpC_pure (wpC_if_false rfl (wpC_pure hf))
    | _ => exact hr.elim
section
variable {h₀ : Heap} {L : Addr} {m : PySem.Str → Option Value} {news : List (Addr × Obj)}
theorem ba_heap (F : Fr h₀ L s.heap m) (N : News h₀ L s.heap news) {h' : Heap} {b : Array UInt8} (k : ∀ c o, c ≠ s.heap.objs.size → s.heap.get? c = some o → h'.get? c = some o) (hb : h'.get? s.heap.objs.size = some (baO b)) :
    Fr h₀ L h' m ∧ News h₀ L h' ((s.heap.objs.size, baO b) :: news) := by
  have ne : ∀ c o, s.heap.get? c = some o → c ≠ s.heap.objs.size := fun c o e => Nat.ne_of_lt (Heap.lt_size e)
  refine ⟨F.keeps fun c o e => k c o (ne c o e) e, fun p hp => ?_⟩
  rcases List.mem_cons.mp hp with rfl | hp
  · have N1 := N.push F (baO b)
    exact ⟨hb, (N1 _ (.head _)).2⟩
  · exact ⟨k _ _ (ne _ _ (N p hp).1) (N p hp).1, (N p hp).2⟩
theorem new_ba0 {Q : Value → Shared → Prop} (F : Fr h₀ L s.heap m) (N : News h₀ L s.heap news) (h : ∀ a h', Fr h₀ L h' m → News h₀ L h' ((a, baO #[]) :: news) → (∀ p ∈ news, @LT.lt Nat instLTNat p.1 a) → Q (.ref a) { s with heap := h' }) :
    wpC (model prog w) A (call (.type "bytearray") []) Q E s := by
  have hs : (s.heap.push (baO #[])).get? s.heap.objs.size = some (baO #[]) := Heap.get?_push_size _ rfl
  refine typeCall_ba ba_typeCall0 ba_newCall0 ?_ (init_ba0 hs ⟨rfl, ?_⟩)
  · intro obj; unfold argsOk; kernel_rfl
  · obtain ⟨F1, N1⟩ := ba_heap (b := #[]) F N (h' := (s.heap.push (baO #[])).update s.heap.objs.size (Obj.mapBytearray fun _ => #[])) (fun c o hc e => (Heap.get?_update_other _ _ (Ne.symm hc)).trans (Heap.get?_push_of_some _ e)) (upd_ba (f := fun _ => #[]) hs)
    exact h _ _ F1 N1 fun p hp => Heap.lt_size (N p hp).1
theorem new_ba1 {src : Array UInt8} {t : Tok} {Q : Value → Shared → Prop} (F : Fr h₀ L s.heap m) (N : News h₀ L s.heap news) (hz : src.size ≤ sizeLine) (h : ∀ a h', Fr h₀ L h' m → News h₀ L h' ((a, baO src) :: news) → (∀ p ∈ news, @LT.lt Nat instLTNat p.1 a) → Q (.ref a) { s with heap := h' }) :
    wpC (model prog w) A (call (.type "bytearray") [.bytes src t]) Q E s := by
  have hs : (s.heap.push (baO #[])).get? s.heap.objs.size = some (baO #[]) := Heap.get?_push_size _ rfl
  refine typeCall_ba (ba_typeCall1 _) (ba_newCall1 _) ?_ (init_ba1 hs hz ⟨rfl, ?_⟩)
  · intro obj; unfold argsOk; kernel_rfl
  · obtain ⟨F1, N1⟩ := ba_heap (b := src) F N (h' := ((s.heap.push (baO #[])).update s.heap.objs.size (Obj.mapBytearray fun _ => #[])).update s.heap.objs.size (Obj.mapBytearray fun _ => src))
      (fun c o hc e => (Heap.get?_update_other _ _ (Ne.symm hc)).trans ((Heap.get?_update_other _ _ (Ne.symm hc)).trans (Heap.get?_push_of_some _ e))) (upd_ba (f := fun _ => src) (upd_ba (f := fun _ => #[]) hs))
    exact h _ _ F1 N1 fun p hp => Heap.lt_size (N p hp).1
theorem method_ba {a : Addr} {b : Array UInt8} {pl : Sem Bool} {Q : Value × List Value → Shared → Prop} (hs : s.heap.get? a = some (baO b)) (h : Q (.builtin "bytearray.append", [.ref a]) s) : wpAny (model prog w) A (getMethod (.ref a) (PySem.Str.ofString "append") pl) Q E s := by
  have hT : s.TypeIs (.ref a) "bytearray" := ⟨_, hs, rfl⟩
  unfold getMethod
  refine wpAny_bind ?_
  refine wpAny_specialOf hT ba_ga ?_
  show wpAny _ A (if (Manifest.canonical "bytearray.__getattribute__" != "object.__getattribute__") = true then _ else _) Q E s
  rw [ba_can, if_neg Bool.false_ne_true]
  refine wpAny_bind ?_
  refine wpAny_specialOf hT ba_no_hook ?_
  refine wpAny_bind ?_
  refine wpAny_specialOf hT ba_append ?_
  refine wpAny_bind ?_
  refine wpAny_of_eq ba_append_ty ?_
  refine wpAny_bind ?_
  refine wpAny_loadPart hs ?_
  exact wpAny_bind (wpAny_rule (wpAny_pure h))
theorem call_append_ba {a : Addr} {b : Array UInt8} {pre post : List (Addr × Obj)} {i : Int} {t : Tok} {Q : Value → Shared → Prop} (F : Fr h₀ L s.heap m) (N : News h₀ L s.heap (pre ++ (a, baO b) :: post)) (hpre : ∀ p ∈ pre, p.1 ≠ a) (hpost : ∀ p ∈ post, p.1 ≠ a) (h0 : 0 ≤ i) (h1 : i < 256) (hz : b.size < sizeLine)
    (h : ∀ h', Fr h₀ L h' m → News h₀ L h' (pre ++ (a, baO (b.push i.toNat.toUInt8)) :: post) → Q .none { s with heap := h' }) :
    wpC (model prog w) A (call (.builtin "bytearray.append") [.ref a, .int i t]) Q E s := by
  have hs : s.heap.get? a = some (baO b) := (N _ (List.mem_append_right _ (.head _))).1
  obtain ⟨F', N'⟩ := news_upd (pre := pre) (f := Obj.mapBytearray (·.push i.toNat.toUInt8)) F N hpre hpost (o' := baO (b.push i.toNat.toUInt8)) rfl rfl
  refine wpC_call (codeC_call_builtin ba_append_slot.plain (by decide +kernel) ba_entry_append (ba_append_slot.check _ _ _ _ _ _ _ _ ⟨_, hs, rfl⟩ (by unfold argsOk; kernel_rfl) (append_ba hs h0 h1 hz ?_)))
  exact h _ F' N'
theorem bytes_ba {a : Addr} {b : Array UInt8} {Q : Value → Shared → Prop} (hs : s.heap.get? a = some (baO b)) (hz : b.size ≤ sizeLine) (h : ∀ t k, Q (.bytes b t) { s with toks := k }) :
    wpAny (model prog w) A (call (.type "bytes") [.ref a]) Q E s := by
  have hT : s.TypeIs (.ref a) "bytearray" := ⟨_, hs, rfl⟩
  refine callType_codes (Q₁ := fun obj s₁ => s₁.TypeIs obj "bytes" ∧ Q obj s₁) PySem.F.bm_called (PySem.F.bm_typeCall _) PySem.F.entry_object_init ?_ fun obj s₁ h₁ => ?_
  · refine codeAny_of_tree ?_
    show wpAny _ A.in1.in1 (do checkBuiltinCall "bytes.__new__" ⟨[.type "bytes", .ref a], []⟩; again (.builtin "bytes.__new__" ⟨[.type "bytes", .ref a], []⟩)) _ _ s
    refine wpAny_bind (wpAny_of_eq (PySem.F.bm_newCall _) (wpAny_pure ⟨plainId_quiet PySem.F.bm_plain _, codeAny_builtin PySem.F.bm_entry ?_⟩))
    unfold Builtin.«bytes.__new__»
    refine wpAny_bind ?_
    refine wpAny_of_eq (a := true) rfl ?_
    refine bm_if_false rfl ?_
    refine wpAny_bind ?_
    refine wpAny_of_eq PySem.F.bm_sub ?_
    refine bm_if_false rfl ?_
    refine wpAny_bind ?_
    refine wpAny_of_eq (PySem.F.bm_bind _) ?_
    refine wpAny_bind ?_
    refine wpAny_of_eq (a := ()) rfl ?_
    refine wpAny_bind ?_
    refine wpAny_of_eq (a := ()) rfl ?_
    refine bm_if_false rfl ?_
    refine wpAny_bind ?_
    refine wpAny_specialOf hT ba_no_bytes ?_
    refine wpAny_bind ?_
    refine wpAny_bind ?_
    show wpAny _ _ (load a >>= _) _ _ _
    refine wpAny_bind ?_
    refine wpAny_load hs ?_
    refine wpAny_pure ?_
    refine wpAny_pure ?_
    refine bm_if_false rfl ?_
    refine wpAny_bind ?_
    refine wpAny_specialOf hT ba_no_index ?_
    refine bm_if_true rfl ?_
    first
      | show wpAny _ _ (Builtin.Bytes.buffer? "bytes.__new__" (.ref a) true >>= _) _ _ _
      | (refine wpAny_bind ?_; show wpAny _ _ (Builtin.Bytes.buffer? "bytes.__new__" (.ref a) true >>= _) _ _ _)
    refine wpAny_bind (buffer_ba hs ?_)
    refine wpAny_bind (wpAny_rule (wpAny_bind (wpAny_mkBytes ?_ hz)))
    first
      | (refine wpAny_bind ?_; show wpAny _ _ (if (Value.type "bytes" == Value.type "bytes") = true then _ else _) _ _ _)
      | show wpAny _ _ (if (Value.type "bytes" == Value.type "bytes") = true then _ else _) _ _ _
    refine bm_if_true (by decide) ?_
    first
      | exact wpAny_pure ⟨typeIs_bytes _ _ _, h _ _⟩
      | exact wpAny_bind (wpAny_pure (wpAny_pure ⟨typeIs_bytes _ _ _, h _ _⟩))
      | exact wpAny_pure (wpAny_pure ⟨typeIs_bytes _ _ _, h _ _⟩)
  · exact ⟨h₁.1, PySem.F.args_object_init_2 obj _, object_init_meets PySem.F.bm_called.init.lookup PySem.F.bm_called.made (by decide) prog w A.in1 _ s₁ ⟨h₁.1, rfl, h₁.2⟩⟩
end
end

section
variable {M : Model} {A : Around} {E : Value → Shared → Prop} {s : Shared} {env : Env}
theorem wpC_callWith_t {T : String} {first : List Value} {pos : Pos} {args : List (Bool × Sem Value)} {Q : Value → Shared → Prop} (hplain : args.any (·.1) = false)
    (h : wpC M A (evalArgs (.type T) true args []) (fun a s₁ => wpC M A (call (.type T) (first ++ a.pos) a.kw) Q E s₁) E s) : wpC M A (callWith pos (.type T) first args []) Q E s := by
  unfold callWith
  refine wpC_bind (wpC_holding (wpC_mono h (fun a s₁ h₁ => wpC_standAt ?_) fun _ _ x => x))
  simp only [hplain, List.any_nil, Bool.or_false]
  refine wpC_bind ?_
  refine wpC_pure ?_
  refine wpC_bind (wpC_mono h₁ (fun r s₂ hr => wpC_of (wpAny_bind (wpAny_holding (wpAny_point (wpAny_pure hr))))) fun _ _ x => x)
theorem wpC_callWith_type1 {T : String} {pos : Pos} {e : PySem.Expr} {rest : List PySem.Expr} {Q : Value → Shared → Prop}
    (h : wpC M A (spliced (backTo pos (starEach (e :: rest) env))) (fun vs s₁ => wpC M A (call (.type T) vs) Q E s₁) E s)
    (he : starEach (e :: rest) env = (false, eval e env) :: starEach rest env := by rfl) (hplain : (backTo pos (starEach rest env)).any (·.1) = false := by rfl) :
    wpC M A (callWith pos (.type T) [] (backTo pos (starEach (e :: rest) env)) []) Q E s := by
  rw [he] at h ⊢
  exact wpC_callWith_t (by show (false || (backTo pos (starEach rest env)).any (·.1)) = false; rw [hplain]; rfl) (wpC_evalArgs h)
theorem wpC_callWith_type0 {T : String} {pos : Pos} {Q : Value → Shared → Prop} (h : wpC M A (call (.type T) []) Q E s) : wpC M A (callWith pos (.type T) [] (backTo pos (starEach [] env)) []) Q E s :=
  wpC_callWith_t rfl (wpC_of (evalArgs_nil3 h))
end

theorem reg52 : True := by
  k_with "mine:cell_enterC" => (refine' codeC_def ?k1 ?k2 ?k3 ?k4 ?k5 ?kA ?kF ?kK ?k6 ?k7 ?k8 ?k9 ?kB ?_ ?c2 ?c3 ?c4 ?c5; (case kA => exact rfl); (case kF => exact rfl); (case kK => assumption); (case k1 => k_asm); (case k2 => k_asm); (case k3 => k_asm); (case k4 => k_asm); (case k5 => k_asm); (case k6 => k_is); (case k7 => k_is); (case k8 => ktr_room); (case k9 => first | exact BindsTo.of_eq rfl | exact binds_K (by k_in) rfl (by k_is) rfl rfl rfl); (case c5 => decide); (case kB => exact locs rfl); (case c2 => exact rfl); (case c3 => exact rfl); (case c4 => exact rfl); k_whole; intro g' L' h' FG' F' N' B' X' T'; (try dsimp only); (try k_lift B'); (try k_fold))
  trivial
def TurnOne (h₀ : Heap) (L I : Addr) (oI : Obj) (s : Shared) (R : Result → Shared → Prop) (f : Flow) (s₂ : Shared) : Prop :=
  f = .next ∧ ∃ h' tk' m' news', s₂ = { s with heap := h', toks := tk' } ∧ Fr h₀ L h' m' ∧ News h₀ L h' ((I, oI) :: news') ∧ (∀ p ∈ news', p.1 ≠ I) ∧
    ∀ h'' tk'', Fr h₀ L h'' m' → News h₀ L h'' news' → R (.ok .next) { s with heap := h'', toks := tk'' }
/-- a for over one item -/
theorem forC_one {prog : Program} {w : World} {A : Around} {E : Value → Shared → Prop} {R : Result → Shared → Prop} {s : Shared} {env : Env} {h₀ : Heap} {m : PySem.Str → Option Value} {news : List (Addr × Obj)} {xv : Value} {P : Nat → Value → Prop} {x : PySem.Str} {px : Pos} {body : List Stmt}
    (S : SrcOk prog w A s xv 1 P) (F : Fr h₀ env.locals s.heap m) (N : News h₀ env.locals s.heap news) (hx : env.kindOf x = some .local) (hp : (env.scope.kind == .class || (env.scope.kind == .module && env.locals != env.globals)) = false)
    (turn : ∀ v I oI h tk, P 0 v → Fr h₀ env.locals h (fun y => if y = x then some v else m y) → News h₀ env.locals h ((I, oI) :: news) → (∀ p ∈ news, @LT.lt Nat instLTNat p.1 I) →
      wpC (model prog w) A (execs body env) (TurnOne h₀ env.locals I oI s R) (fun _ _ => False) { s with heap := h, toks := tk }) :
    wpAny (model prog w) A (pyIter xv) (fun it s₂ => codeC (model prog w) A (.forLoop (.Name x px) it body [] env) R s₂) E s := by
  refine S _ _ fun o St W hI hS st0 => codeC_forTurn (W.item 0 _ _ _ (by decide) st0 fun v h₁ tk₁ hP st₁ k₁ => ?_) (fun v Q s' q => wpAny_of_eq (a := ()) rfl q)
  have hLI : env.locals ≠ s.heap.objs.size := Nat.ne_of_lt F.ns.lt
  have hI₀ : h₀.get? s.heap.objs.size = none := next_is_new F
  have hlt : ∀ p ∈ news, @LT.lt Nat instLTNat p.1 s.heap.objs.size := fun p hp => Heap.lt_size (N p hp).1
  have up : ∀ b o', b ≠ s.heap.objs.size → s.heap.get? b = some o' → h₁.get? b = some o' := fun b o' hb e => k₁ b o' (by simpa using hb) (Heap.get?_push_of_some _ e)
  have F₁ : Fr h₀ env.locals h₁ m := ⟨F.ns.at' fun o e => up _ o hLI e, fun b o e => up b o (fun q => by rw [q, hI₀] at e; cases e) (F.keep b o e), F.above⟩
  have N₁ : News h₀ env.locals h₁ news := fun p hp => ⟨up _ _ (Nat.ne_of_lt (hlt p hp)) (N p hp).1, (N p hp).2⟩
  obtain ⟨oI, hoI⟩ := hI _ _ st₁
  refine wpAny_assign_Name (wpAny_storeName_local hx F₁.ns (fun h₂ hn₂ hs₂ => ?_) hp)
  have F₂ := F₁.set hn₂ hs₂
  have N₂ := N₁.set hs₂
  have hoI₂ : h₂.get? s.heap.objs.size = some oI := hs₂.extBut _ _ (Ne.symm hLI) hoI
  have st₂ := hS _ _ _ _ st₁ hoI hoI₂
  refine wpC_mono (turn v s.heap.objs.size oI h₂ _ hP F₂ (fun p hp => ?_) hlt) (fun f s₃ q => ?_) (fun _ _ q => q)
  · rcases List.mem_cons.mp hp with rfl | hp
    · exact ⟨hoI₂, Ne.symm hLI, hI₀⟩
    · exact N₂ p hp
  · obtain ⟨rfl, h', tk', m', news', rfl, F', N', off, hR⟩ := q
    have st₃ := hS _ _ _ _ st₂ hoI₂ (N' _ (.head _)).1
    refine codeC_forTurn (W.done _ _ _ st₃ fun h'' tk'' k'' => ?_) (fun v Q s' q => wpAny_of_eq (a := ()) rfl q)
    refine hR h'' tk'' ⟨F'.ns.at' fun o e => k'' _ o (by simpa using hLI) e, fun b o e => k'' b o (by
      intro q
      rw [List.mem_singleton.mp q, hI₀] at e; cases e) (F'.keep b o e), F'.above⟩ fun p hp => ⟨k'' _ _ (by simpa using off p hp) (N' p (.tail _ hp)).1, (N' p (.tail _ hp)).2⟩

theorem reg53 : True := by
  k_with "mine:n_mem" => ((with_reducible rename News _ _ _ _ => N9); first | exact (N9 _ (.head _)).1 | exact (N9 _ (.tail _ (.head _))).1 | exact (N9 _ (.tail _ (.tail _ (.head _)))).1 | exact (N9 _ (.tail _ (.tail _ (.tail _ (.head _))))).1)
  k_with "getMethod ref" => (k_here; (with_reducible show wpAny _ _ (getMethod (Value.ref _) (PySem.Str.ofString "append") _) _ _ _); k_dflt (refine' method_ba (b := _) ?h ?_; (case h => walk_at "mine:n_mem"); k_whole))
  trivial
theorem reg54 : True := by
  k_with "call type:bytes" => (k_here; (with_reducible show wpAny _ _ (call (Value.type "bytes") [Value.ref _]) _ _ _); k_dflt (refine' bytes_ba (b := _) ?h ?z ?_; (case h => walk_at "mine:n_mem"); (case z => first | decide | (simp; omega)); k_whole); intro _ _)
  trivial
theorem reg55 : True := by
  k_with "mine:c_s" => (refine wpC_of ?_; k_steps)
  trivial
theorem c_quoted1 {w : World} {mean : ExcName → Option Value} {mg mb : PySem.Str → Option Value} {dp un : Nat} {gd : Option (List Code)} {cn : PySem.Str} {cs : Scope} {a : Addr} {ccd : Value} {cl : List (PySem.Str × Addr)} {outer : List Env} {A₀ : Around} {base h₀ : Heap} {L : Addr} {m : PySem.Str → Option Value} {s : Shared} {Q E : Value → Shared → Prop} {t : Tok} {news : List (Addr × Obj)}
    (B : Below A₀ base outer h₀) (F : Fr h₀ L s.heap m) (X : (hd.heap_1 w.params).In h₀) (N : News h₀ L s.heap news) (T : Top topProg Lz mean mg mb h₀) (hk : cs.kind = .function) (hp : True) (hdp : dp + 6 < recursionLimit) (hun : un + 48 < cLine)
    (hret : ∀ (t' : Tok) (h' : Heap) (tk' : Nat), Fr h₀ L h' m → News h₀ L h' news → Q (.bytes [34, 120, 34].toArray t') { s with heap := h', toks := tk' }) :
    wpC (model PySem.Challenge.rw_nz0333_01.row.prog w) (ktrTop dp un gd cn cs L a ccd cl outer) (call (.ref 565) [.bytes [120].toArray t]) Q E s := by
  refine wpC_call ?_
  k_dflt walk_at "mine:cell_enterC"
  refine wpC_execs_cons ?_
  refine wpC_Assign_Name ?_
  refine wpC_Call ?_
  k_steps
  refine wpC_callWith_type1 ?_
  refine wpC_args_cons ?_
  refine wpC_of ?_
  k_steps
  refine wpC_args_nil (new_ba1 (by k_asm) (by k_asm) (by decide) ?_)
  intro b9 h9 F9 N9 l9
  walk_at "mine:c_s"
  refine wpC_execs_cons ?_
  refine wpC_For ?_
  iterate 8 (first | (with_reducible show wpAny _ _ (pyIter _) _ _ _) | walk1)
  refine forC_one (src_bytes rfl _ _) (by k_asm) (by k_asm) rfl (by with_unfolding_all rfl) ?_
  rintro v9 I9 oI9 h8 tk8 ⟨c9, u9, hc9, rfl⟩ F8 N8 l8
  obtain rfl : c9 = 120 := by simpa using hc9.symm
  refine wpC_execs_cons ?_
  refine wpC_of ?_
  k_steps
  refine wpC_execs_cons ?_
  refine wpC_Expr ?_
  refine wpC_MethodCall ?_
  k_steps
  refine wpC_callWith_builtin ?_
  refine wpC_args_cons ?_
  refine wpC_of ?_
  k_steps
  refine wpC_args_nil (call_append_ba (pre := [(_, _)]) (by k_asm) (by k_asm) ?p1 ?p2 (by decide) (by decide) (by decide) ?_)
  case p1 => intro p hp; rw [List.mem_singleton.mp hp]; exact Nat.ne_of_gt (l8 _ (.head _))
  case p2 => exact fun p hp => Nat.ne_of_lt (l9 p hp)
  intro h7 F7 N7
  refine ⟨fun a q => (nomatch q), wpC_of (wpAny_execs_nil ⟨rfl, _, _, _, _, rfl, F7, N7, fun p hp => ?_, fun h6 tk6 F6 N6 => ?_⟩)⟩
  · rcases List.mem_cons.mp hp with rfl | hp
    · exact Nat.ne_of_lt (l8 (b9, baO #[34]) (.head _))
    · exact Nat.ne_of_lt (l8 p (.tail _ hp))
  refine wpC_execs_cons ?_
  refine wpC_Expr ?_
  refine wpC_MethodCall ?_
  k_steps
  refine wpC_callWith_builtin ?_
  refine wpC_args_cons ?_
  refine wpC_of ?_
  k_steps
  refine wpC_args_nil (call_append_ba (pre := []) (by k_asm) (by k_asm) (fun p hp => nomatch hp) (fun p hp => Nat.ne_of_lt (l9 p hp)) (by decide) (by decide) (by decide) ?_)
  intro h5 F5 N5
  refine ⟨fun a q => (nomatch q), wpC_of ?_⟩
  k_steps
  exact hret _ _ _ (by k_asm) (by walk_at "mine:kn")

theorem reg56 : True := by
  k_with "mine:cell_inC" => ((first | refine' code_defC ?k1 ?k2 ?k3 ?k4 ?k5 ?kA ?kF ?kK ?k6 ?k7 ?k8 ?k9 ?kB ?kD ?_ ?c2 ?c3 ?c4 | refine' codeC_defC ?k1 ?k2 ?k3 ?k4 ?k5 ?kA ?kF ?kK ?k6 ?k7 ?k8 ?k9 ?kB ?kD ?_ ?c2 ?c3 ?c4); (case kA => exact rfl); (case kF => exact rfl); (case kK => assumption); (case k1 => k_asm); (case k2 => k_asm); (case k3 => k_asm); (case k4 => k_asm); (case k5 => k_asm); (case k6 => k_is); (case k7 => k_is); (case k8 => ktr_room); (case k9 => first | exact BindsTo.of_eq rfl | exact binds_K (by k_in) rfl (by k_is) rfl rfl rfl); (case kB => exact rfl); (case kD => decide +kernel); (case c2 => exact rfl); (case c3 => exact rfl); (case c4 => exact rfl); k_whole; intro g' L' h' tk' cells' FG' F' N' Y' B' X' T' l1; (try k_lt l1); k_cells Y'; (try simp only [List.cons_append, List.nil_append] at N'); (try dsimp only); (try k_lift B'); (try k_fold))
  trivial
theorem c_wval7 {w : World} {mean : ExcName → Option Value} {mg mb : PySem.Str → Option Value} {dp un : Nat} {gd : Option (List Code)} {cn : PySem.Str} {cs : Scope} {a : Addr} {ccd : Value} {cl : List (PySem.Str × Addr)} {outer : List Env} {A₀ : Around} {base h₀ : Heap} {L : Addr} {m : PySem.Str → Option Value} {s : Shared} {Q E : Value → Shared → Prop} {t : Tok} {news : List (Addr × Obj)}
    (B : Below A₀ base outer h₀) (F : Fr h₀ L s.heap m) (X : (hd.heap_1 w.params).In h₀) (N : News h₀ L s.heap news) (T : Top topProg Lz mean mg mb h₀) (hk : cs.kind = .function) (hp : True) (hdp : dp + 6 < recursionLimit) (hun : un + 48 < cLine)
    (hret : ∀ (t' : Tok) (h' : Heap) (tk' : Nat), Fr h₀ L h' m → News h₀ L h' news → Q (.bytes [55].toArray t') { s with heap := h', toks := tk' }) :
    wpAny (model PySem.Challenge.rw_nz0333_01.row.prog w) (ktrTop dp un gd cn cs L a ccd cl outer) (call (.ref 593) [.int 7 t]) Q E s := by
  refine wpAny_call ?_
  k_dflt walk_at "mine:cell_inC"
  k_steps
  exact hret _ _ _ (by k_asm) (by walk_at "mine:kn")

theorem c_string1 {w : World} {mean : ExcName → Option Value} {mg mb : PySem.Str → Option Value} {dp un : Nat} {gd : Option (List Code)} {cn : PySem.Str} {cs : Scope} {a : Addr} {ccd : Value} {cl : List (PySem.Str × Addr)} {outer : List Env} {A₀ : Around} {base h₀ : Heap} {L : Addr} {m : PySem.Str → Option Value} {s : Shared} {Q E : Value → Shared → Prop} {t : Tok} {news : List (Addr × Obj)}
    (B : Below A₀ base outer h₀) (F : Fr h₀ L s.heap m) (X : (hd.heap_1 w.params).In h₀) (N : News h₀ L s.heap news) (T : Top topProg Lz mean mg mb h₀) (hk : cs.kind = .function) (hp : True) (hdp : dp + 8 < recursionLimit) (hun : un + 64 < cLine)
    (hret : ∀ (t' : Tok) (h' : Heap) (tk' : Nat), Fr h₀ L h' m → News h₀ L h' news → Q (.bytes [34, 120, 34].toArray t') { s with heap := h', toks := tk' }) :
    wpC (model PySem.Challenge.rw_nz0333_01.row.prog w) (ktrTop dp un gd cn cs L a ccd cl outer) (call (.ref 581) [.bytes [120].toArray t]) Q E s := by
  refine wpC_call ?_
  k_dflt walk_at "mine:cell_enterC"
  refine wpC_execs_cons ?_
  refine wpC_If ?_
  refine wpC_of ?_
  k_steps
  refine wpC_execs_cons ?_
  refine wpC_Return ?_
  refine wpC_Call ?_
  k_steps
  refine wpC_callWith_K (K := hd.heap_1 w.params) (by k_is) ?_
  refine wpC_args_cons ?_
  refine wpC_of ?_
  k_steps
  refine wpC_args_nil ⟨by k_in, ?_⟩
  k_dflt (refine' c_quoted1 ?k1 ?k2 ?k3 ?k4 ?k5 ?kK ?kp ?kd ?ku ?_; (case k1 => k_asm); (case k2 => k_asm); (case k3 => k_asm); (case k4 => k_asm); (case k5 => k_asm); (case kK => first | exact rfl | assumption); (case kp => trivial); (case kd => ktr_room); (case ku => ktr_units))
  intro t9 h9 tk9 F9 N9
  k_steps
  exact hret _ _ _ (by k_asm) (by walk_at "mine:kn")

theorem c_wvalx {w : World} {mean : ExcName → Option Value} {mg mb : PySem.Str → Option Value} {dp un : Nat} {gd : Option (List Code)} {cn : PySem.Str} {cs : Scope} {a : Addr} {ccd : Value} {cl : List (PySem.Str × Addr)} {outer : List Env} {A₀ : Around} {base h₀ : Heap} {L : Addr} {m : PySem.Str → Option Value} {s : Shared} {Q E : Value → Shared → Prop} {t : Tok} {news : List (Addr × Obj)}
    (B : Below A₀ base outer h₀) (F : Fr h₀ L s.heap m) (X : (hd.heap_1 w.params).In h₀) (N : News h₀ L s.heap news) (T : Top topProg Lz mean mg mb h₀) (hk : cs.kind = .function) (hp : True) (hdp : dp + 10 < recursionLimit) (hun : un + 80 < cLine)
    (hret : ∀ (t' : Tok) (h' : Heap) (tk' : Nat), Fr h₀ L h' m → News h₀ L h' news → Q (.bytes [34, 120, 34].toArray t') { s with heap := h', toks := tk' }) :
    wpC (model PySem.Challenge.rw_nz0333_01.row.prog w) (ktrTop dp un gd cn cs L a ccd cl outer) (call (.ref 593) [.bytes [120].toArray t]) Q E s := by
  refine wpC_call ?_
  k_dflt walk_at "mine:cell_inC"
  refine wpC_execs_cons ?_
  refine wpC_of ?_
  k_steps
  refine wpC_execs_cons ?_
  refine wpC_of ?_
  k_steps
  refine wpC_execs_cons ?_
  refine wpC_If ?_
  refine wpC_of ?_
  k_steps
  refine wpC_execs_cons ?_
  refine wpC_Return ?_
  refine wpC_Call ?_
  k_steps
  refine wpC_callWith_K (K := hd.heap_1 w.params) (by k_is) ?_
  refine wpC_args_cons ?_
  refine wpC_of ?_
  k_steps
  refine wpC_args_nil ⟨by k_in, ?_⟩
  k_dflt (refine' c_string1 ?k1 ?k2 ?k3 ?k4 ?k5 ?kK ?kp ?kd ?ku ?_; (case k1 => k_asm); (case k2 => k_asm); (case k3 => k_asm); (case k4 => k_asm); (case k5 => k_asm); (case kK => first | exact rfl | assumption); (case kp => trivial); (case kd => ktr_room); (case ku => ktr_units))
  intro t9 h9 tk9 F9 N9
  k_steps
  exact hret _ _ _ (by k_asm) (by walk_at "mine:kn")

section
variable {prog : Program} {w : World} {A : Around} {E : Value → Shared → Prop} {R : Result → Shared → Prop} {s : Shared} {env : Env}
theorem wpC_attempt {α : Type} {M : Model} {m : Sem α} {Q : Except Value α → Shared → Prop} (h : wpC M A m (fun a => Q (.ok a)) (fun e => Q (.error e)) s) :
    wpC M A m.attempt Q E s := fun Γ p hΓ h1 h2 => by rw [Sem.wp_attempt]; exact h Γ p hΓ h1 h2
theorem wpC_standIf {α : Type} {M : Model} {c : Prop} [Decidable c] {pos : Pos} {k : PUnit → Sem α} {Q : α → Shared → Prop} (h : wpC M A (k ()) Q E s) :
    wpC M A (if c then (standAt pos >>= k) else k ()) Q E s := by
  split
  · exact wpC_standAt h
  · exact h
theorem codeC_compTurn {elt target iter : PySem.Expr} {scope : Scope} {pos : Pos} {it acc : Value}
    (h : wpAny (model prog w) A (pyNext it) (fun r s₁ => match r with
      | none => R (.ok .next) s₁
      | some v => wpAny (model prog w) A (assign target env v) (fun _ s₂ => wpC (model prog w) A (eval elt env) (fun x s₃ =>
          wpAny (model prog w) A (call (.builtin "list.append") [acc, x]) (fun _ s₄ => codeC (model prog w) A (.compLoop (.ListComp elt [⟨target, iter, [], 0⟩] scope pos) 0 it acc env) R s₄) (fun _ _ => False) s₃) (fun _ _ => False) s₂) (fun _ _ => False) s₁) (fun _ _ => False) s)
    (ht : ∀ v, letOwnedTupleGo target it v = pure () := by intro _; rfl) :
    codeC (model prog w) A (.compLoop (.ListComp elt [⟨target, iter, [], 0⟩] scope pos) 0 it acc env) R s := by
  refine codeC_of_tree rfl ?_
  show wpC _ _ ((compTurn (.ListComp elt [⟨target, iter, [], 0⟩] scope pos) 0 it acc env).onRaise (fun x => do noteFrame x env; theTreesLotGoes x)) _ _ s
  refine wpC_onRaise (wpC_mono (E := fun _ _ => False) ?_ (fun _ _ q => q) fun _ _ q => q.elim)
  rw [compTurn_list1]
  refine wpC_standAt (wpC_bind (wpC_of (wpAny_mono h (fun r s₁ h₁ => ?_) fun _ _ h' => h')))
  cases r with
  | none => exact wpC_pure h₁
  | some v =>
    refine wpC_bind ?_
    refine wpC_of ?_
    refine wpAny_of_eq (ht v) ?_
    exact wpC_bind (wpC_of (wpAny_mono h₁ (fun _ s₂ h₂ => wpC_bind (wpC_bind (wpC_mono h₂ (fun x s₃ h₃ => wpC_bind (wpC_of (wpAny_mono h₃
      (fun _ s₄ h₄ => wpC_pure (wpC_pure ⟨rfl, h₄⟩)) fun _ _ h' => h'))) fun _ _ h' => h'))) fun _ _ h' => h'))
theorem codeC_compStart {elt target iter : PySem.Expr} {scope : Scope} {pos : Pos} {it acc : Value} {ifs : List PySem.Expr} {rest : List Comprehension}
    (h0 : codeC (model prog w) A (.compLoop (.ListComp elt (⟨target, iter, ifs, 0⟩ :: rest) scope pos) 0 it acc env) R s)
    (h : wpAny (model prog w) A (pyIter it) (fun it' s' => codeC (model prog w) A (.compLoop (.ListComp elt (⟨target, iter, ifs, 0⟩ :: rest) scope pos) 0 it' acc env) R s') (fun _ _ => False) s) :
    codeC (model prog w) A (.compStart (.ListComp elt (⟨target, iter, ifs, 0⟩ :: rest) scope pos) 0 it acc env) R s := by
  refine codeC_of_tree rfl ?_
  show wpC _ _ ((compStart (.ListComp elt (⟨target, iter, ifs, 0⟩ :: rest) scope pos) 0 it acc env).onRaise (fun x => do noteFrame x env; standAt theWindowsPlace)) _ _ s
  refine wpC_onRaise (wpC_of (wpAny_mono (E := fun _ _ => False) ?_ (fun _ _ q => q) fun _ _ q => q.elim))
  unfold compStart
  show wpAny _ _ (ask >>= _) _ _ s
  refine wpAny_bind ?_
  refine wpAny_askSetting ?_
  refine wpAny_ite ?_
  split
  · first
      | exact wpAny_bind (wpAny_pure (wpAny_pure (And.intro rfl h0)))
      | exact wpAny_pure (And.intro rfl h0)
  · first
      | exact wpAny_bind (wpAny_rule (wpAny_bind (wpAny_standAt (wpAny_bind (wpAny_mono h (fun it' s' h' => wpAny_pure (And.intro rfl h')) fun _ _ x => x)))))
      | (refine wpAny_bind (wpAny_rule ?_); show wpAny _ _ (standAt iter.pos >>= _) _ _ s; exact wpAny_bind (wpAny_standAt (wpAny_bind (wpAny_mono h (fun it' s' h' => wpAny_pure (And.intro rfl h')) fun _ _ x => x))))
theorem wpC_comprehension {e : PySem.Expr} {scope : Scope} {pos : Pos} {newAcc first : Sem Value} {g : Comprehension} {gs : List Comprehension} {cl : List (PySem.Str × Addr)} {M : Model} {Q : Value → Shared → Prop}
    (hcl : clausesOf e = g :: gs) (hs : ∀ x, foldedSetIterable g.iter env x = pure x) (hclos : closureFor scope env = pure cl)
    (hkind : scope.kind = .function) (hnames : ∀ x ∈ scope.names, x.2 = .local → scope.names.lookup x.1 = some .local)
    (h : wpAny M A first (fun x s₁ => wpAny M A (pyIter x) (fun it s₂ => wpAny M A newAcc (fun acc s₃ =>
      wpAny M A (newFunctionEnv scope env.globals cl [] env.qual none .none (some env)) (fun cenv s₄ =>
        codeC M A (.compStart e 0 it acc { cenv with scope := relabel scope env }) (fun r s' => r = .ok .next ∧ ∃ m, s'.heap.Ns cenv.locals m ∧ ∀ h', Heap.SameBut cenv.locals s'.heap h' → Q acc { s' with heap := h' }) s₄) (fun _ _ => False) s₃) (fun _ _ => False) s₂) (fun _ _ => False) s₁) E s) :
    wpC M A (comprehension e scope env pos newAcc false first none) Q E s := by
  unfold comprehension
  rw [hclos, hcl]
  refine wpC_bind (wpC_of (wpAny_mono h (fun x s₁ h₁ => wpC_standAt (wpC_bind (wpC_of (wpAny_of_eq (hs x) (wpC_bind (wpC_holding (wpC_of (wpAny_mono h₁ (fun it s₂ h₂ =>
    wpC_standIf (wpC_bind (wpC_of (wpAny_mono h₂ (fun acc s₃ h₃ => wpC_bind (wpC_of (wpAny_pure (wpC_bind (wpC_of (wpAny_mono h₃ (fun cenv s₄ h₄ => ?_) fun _ _ h' => h'.elim)))))) fun _ _ h' => h'.elim))))
      fun _ _ h' => h'.elim)))))))) fun _ _ h' => h'))
  dsimp only
  have hv : ∀ x ∈ (scope.names.filter fun x => (x.2 == .local || x.2 == .cell) && x.1 != (".0" : PySem.Str)).reverse, x.2 = .local →
      Env.kindOf { cenv with scope := relabel scope env } x.1 = some .local := fun x hx hl => lookup_relabel_local (hnames x (List.mem_filter.mp (List.mem_reverse.mp hx)).1 hl)
  refine wpC_holding (wpC_bind (wpC_attempt (wpC_holding (wpC_run (codeC_mono h₄ fun r s' hr => ?_)))))
  obtain ⟨rfl, m, hn, hr⟩ := hr
  exact wpC_bind (wpC_holding (wpC_of (wpAny_comp_letGo (cenv := { cenv with scope := relabel scope env }) hkind _ s' m hv hn fun h' m' _ hs' => wpC_pure (hr h' hs'))))
end

section
variable {prog : Program} {w : World} {A : Around} {E : Value → Shared → Prop} {s : Shared} {h₀ : Heap} {L : Addr} {m : PySem.Str → Option Value} {env : Env} {news : List (Addr × Obj)}
theorem blockC_one {elt iter : PySem.Expr} {x : PySem.Str} {px : Pos} {scope : Scope} {cl : List (PySem.Str × Addr)} {pos : Pos} {s₂ : Shared} {I : Addr} {fp : List Addr} {P : Nat → Value → Prop} {St : Nat → Heap → Prop}
    {RR : Value → Addr → Result → Shared → Prop}
    (W : Walks prog w A I fp [I] 1 P St) (hIo : ∀ i h, St i h → ∃ o, h.get? I = some o)
    (hSt : ∀ i h h' o, St i h → h.get? I = some o → h'.get? I = some o → News h₀ L h' news → St i h')
    (hcell : ∀ y ∈ scope.names, y.2 ≠ .cell) (hkind : scope.kind = .function) (hx : scope.names.lookup x = some .local) (hst : St 0 s₂.heap) (hfp : ∀ b ∈ fp, b < s₂.heap.objs.size)
    (F : Fr h₀ L s₂.heap m) (N : News h₀ L s₂.heap news) (hIL : L ≠ I) (hI₀ : h₀.get? I = none) (off : ∀ p ∈ news, p.1 ≠ I)
    (turn : ∀ v oI C oC D m₂ h tk, P 0 v → LCg.NsObj oC m₂ → m₂ x = some v → Fr h₀ L h m → News h₀ L h ((I, oI) :: (C, oC) :: (D, LCg.lst []) :: news) →
      wpC (model prog w) A (eval elt (compEnvC scope cl C env)) (fun y s₃ => (∃ h' tk', s₃ = { s₂ with heap := h', toks := tk' } ∧ Fr h₀ L h' m ∧ News h₀ L h' ((I, oI) :: (C, oC) :: (D, LCg.lst []) :: news)) ∧
        ∀ D C h tk m', Fr h₀ L h m → News h₀ L h ((D, LCg.lst [y]) :: news) → h.Ns C m' → h₀.get? C = none → C ≠ L → C ≠ D → (∀ p ∈ news, p.1 ≠ C) → RR (.ref D) C (.ok .next) { s₂ with heap := h, toks := tk })
        (fun _ _ => False) { s₂ with heap := h, toks := tk }) :
    wpAny (model prog w) A (newList []) (fun acc s₃ => wpAny (model prog w) A (newFunctionEnv scope env.globals cl [] env.qual none .none (some env)) (fun cenv s₄ =>
      codeC (model prog w) A (.compStart (.ListComp elt [⟨.Name x px, iter, [], 0⟩] scope pos) 0 (.ref I) acc { cenv with scope := relabel scope env }) (RR acc cenv.locals) s₄) (fun _ _ => False) s₃) (fun _ _ => False) s₂ := by
  refine wpAny_newObj_type (wpAny_newFunctionEnv hcell (by intro y hy; simp at hy) (fun h₁ hns₁ hsb₁ => ?_) hkind)
  dsimp only at hns₁ hsb₁ ⊢
  generalize hH2 : s₂.heap.push { cls := .type "list", dict := none, data := .seq ([] : List Value).toArray } = H2 at hns₁ hsb₁ ⊢
  have hC : H2.objs.size = s₂.heap.objs.size + 1 := by rw [← hH2, Heap.size_push]
  have hDC : s₂.heap.objs.size ≠ H2.objs.size := by rw [hC]; exact Nat.ne_of_lt (Nat.lt_succ_self _)
  have below : ∀ b, b < s₂.heap.objs.size → b ≠ H2.objs.size ∧ b ≠ s₂.heap.objs.size := fun b hb => ⟨by rw [hC]; exact Nat.ne_of_lt (Nat.lt_succ_of_lt hb), Nat.ne_of_lt hb⟩
  have hDf : s₂.heap.objs.size ∉ fp := fun hm => Nat.lt_irrefl _ (hfp _ hm)
  have hCf : H2.objs.size ∉ fp := fun hm => by have := hfp _ hm; rw [hC] at this; exact Nat.lt_irrefl _ (Nat.lt_of_succ_lt this)
  have hIlt : I < s₂.heap.objs.size := hfp I (W.sub I (List.mem_singleton.mpr rfl))
  have old : ∀ b o, s₂.heap.get? b = some o → h₁.get? b = some o := fun b o e => hsb₁.extBut b o (below b (Heap.lt_size e)).1 (Heap.get?_push_of_some _ (hH2 ▸ Heap.get?_push_of_some _ e))
  have hacc : h₁.get? s₂.heap.objs.size = some (LCg.lst []) := hsb₁.extBut _ _ hDC (Heap.get?_push_of_some _ (hH2 ▸ Heap.get?_push_size _ rfl))
  have hst₁ : St 0 h₁ := W.frame _ _ _ hst fun b _ o e => old b o e
  have fresh₀ : ∀ a, s₂.heap.objs.size ≤ a → h₀.get? a = none := fun a ha => by
    cases e : h₀.get? a with
    | none => rfl
    | some o' => exact absurd (Heap.lt_size (F.keep a o' e)) (Nat.not_lt.mpr ha)
  have hD₀ : h₀.get? s₂.heap.objs.size = none := fresh₀ _ (Nat.le_refl _)
  have hC₀ : h₀.get? H2.objs.size = none := fresh₀ _ (by rw [hC]; exact Nat.le_succ _)
  have hDL : s₂.heap.objs.size ≠ L := Ne.symm (below L F.ns.lt).2
  have hCL : H2.objs.size ≠ L := Ne.symm (below L F.ns.lt).1
  have hCI : I ≠ H2.objs.size := (below I hIlt).1
  have hDI : I ≠ s₂.heap.objs.size := (below I hIlt).2
  have offC : ∀ p ∈ news, p.1 ≠ H2.objs.size := fun p hp => (below _ (Heap.lt_size (N p hp).1)).1
  have offD : ∀ p ∈ news, p.1 ≠ s₂.heap.objs.size := fun p hp => (below _ (Heap.lt_size (N p hp).1)).2
  have N₁ : News h₀ L h₁ ((s₂.heap.objs.size, LCg.lst []) :: news) := fun p hp => by
    rcases List.mem_cons.mp hp with rfl | hp
    · exact ⟨hacc, hDL, hD₀⟩
    · exact ⟨old _ _ (N p hp).1, (N p hp).2⟩
  have F₁ := F.keeps old
  have loop : codeC (model prog w) A (.compLoop (.ListComp elt [⟨.Name x px, iter, [], 0⟩] scope pos) 0 (.ref I) (.ref s₂.heap.objs.size) (compEnvC scope cl H2.objs.size env))
        (RR (.ref s₂.heap.objs.size) H2.objs.size) { s₂ with heap := h₁, toks := s₂.toks + ([] : List (PySem.Str × Value)).length } := by
    refine codeC_compTurn ?_
    refine W.item 0 _ _ _ (by decide) hst₁ fun v h₂ tk₂ hPv hst₂ hk₂ => ?_
    refine wpAny_assign_Name (wpAny_storeName_local (lookup_relabel_local hx) (hns₁.at' fun o e => hk₂ _ o (by simpa using Ne.symm hCI) e) (fun h₃ hn₃ hs₃ => ?_) (by simp [compEnvC, relabel, hkind]))
    have hst₃ : St 1 h₃ := W.frame _ _ _ hst₂ fun b hb o e => hs₃.extBut b o (fun q => hCf (by have q' : b = H2.objs.size := q; rw [← q']; exact hb)) e
    obtain ⟨oI, heI⟩ := hIo _ _ hst₃
    obtain ⟨oC, heC, hoC⟩ := LCg.ns_obj hn₃
    have F₃ : Fr h₀ L h₃ m := (LCg.fr_but F₁ hk₂ hIL hI₀).change hs₃ hCL hC₀
    have N₂ : News h₀ L h₂ ((s₂.heap.objs.size, LCg.lst []) :: news) := LCg.news_but N₁ hk₂ fun p hp => by
      rcases List.mem_cons.mp hp with rfl | hp
      · exact Ne.symm hDI
      · exact off p hp
    have N₃ : News h₀ L h₃ ((I, oI) :: (H2.objs.size, oC) :: (s₂.heap.objs.size, LCg.lst []) :: news) := fun p hp => by
      rcases List.mem_cons.mp hp with rfl | hp
      · exact ⟨heI, Ne.symm hIL, hI₀⟩
      · rcases List.mem_cons.mp hp with rfl | hp
        · exact ⟨heC, hCL, hC₀⟩
        · have z := N₂ p hp
          refine ⟨hs₃.extBut _ _ ?_ z.1, z.2⟩
          rcases List.mem_cons.mp hp with rfl | hp
          · exact hDC
          · exact offC p hp
    refine wpC_mono (turn v oI H2.objs.size oC s₂.heap.objs.size _ h₃ _ hPv hoC (by simp) F₃ N₃) (fun y s₄ h₄ => ?_) fun _ _ e => e
    obtain ⟨⟨h₄, tk₄, rfl, F₄, N₄⟩, hRR⟩ := h₄
    have zI := (N₄ (I, oI) List.mem_cons_self).1
    have zC := (N₄ (H2.objs.size, oC) (List.mem_cons_of_mem _ List.mem_cons_self)).1
    have zD := (N₄ (s₂.heap.objs.size, LCg.lst []) (List.mem_cons_of_mem _ (List.mem_cons_of_mem _ List.mem_cons_self))).1
    have N₄' : News h₀ L h₄ news := fun p hp => N₄ p (List.mem_cons_of_mem _ (List.mem_cons_of_mem _ (List.mem_cons_of_mem _ hp)))
    have hst₄ : St 1 h₄ := hSt _ _ _ _ hst₃ heI zI N₄'
    refine PyProof.Rows.append_at (hsz := by show ([] : List Value).toArray.size ≤ sizeLine; simp) zD fun h₅ hs₅ hD₅ => ?_
    have N₅ : News h₀ L h₅ ((s₂.heap.objs.size, LCg.lst [y]) :: news) := fun p hp => by
      rcases List.mem_cons.mp hp with rfl | hp
      · exact ⟨hD₅.trans (congrArg some (LCg.lst_snoc [] y)), hDL, hD₀⟩
      · exact ⟨hs₅.extBut _ _ (offD p hp) (N₄' p hp).1, (N₄' p hp).2⟩
    refine codeC_compTurn (W.done _ _ _ (W.frame _ _ _ hst₄ fun b hb o e => hs₅.extBut b o (fun q => hDf (q ▸ hb)) e) fun h₆ tk₆ hk₆ => ?_)
    exact hRR _ _ h₆ tk₆ _ (LCg.fr_but (F₄.change hs₅ hDL hD₀) hk₆ hIL hI₀) (LCg.news_but N₅ hk₆ fun p hp => by
      rcases List.mem_cons.mp hp with rfl | hp
      · exact Ne.symm hDI
      · exact off p hp) (((hoC.ns zC).sameBut hs₅ (Ne.symm hDC)).at' fun o e => hk₆ _ o (by simpa using Ne.symm hCI) e) hC₀ hCL (Ne.symm hDC) offC
  exact codeC_compStart loop (W.self 0 _ _ _ hst₁ loop)
/-- a list of one, as a list display makes it -/
abbrev ls1 (v : Value) : Obj := { cls := .type "list", data := .seq [v].toArray }
/-- the list of one is at hand: what the comprehension still asks -/
def CompOne (prog : Program) (w : World) (A : Around) (h₀ : Heap) (L : Addr) (m : PySem.Str → Option Value) (env : Env) (elt : PySem.Expr) (x : PySem.Str) (scope : Scope) (cl : List (PySem.Str × Addr)) (v : Value) (Q : Value → Shared → Prop) (xv : Value) (s₁ : Shared) : Prop :=
  ∃ ax news, xv = .ref ax ∧ Fr h₀ L s₁.heap m ∧ News h₀ L s₁.heap news ∧ (ax, ls1 v) ∈ news ∧
      ∀ I oI C oC D m₂ h tk, LCg.NsObj oC m₂ → m₂ x = some v → Fr h₀ L h m → News h₀ L h ((I, oI) :: (C, oC) :: (D, LCg.lst []) :: news) →
        wpC (model prog w) A (eval elt (compEnvC scope cl C env)) (fun y s₂ => (∃ h' tk', s₂ = { s₁ with heap := h', toks := tk' } ∧ Fr h₀ L h' m ∧ News h₀ L h' ((I, oI) :: (C, oC) :: (D, LCg.lst []) :: news)) ∧
          ∀ D h tk, Fr h₀ L h m → News h₀ L h ((D, LCg.lst [y]) :: news) → Q (.ref D) { s₁ with heap := h, toks := tk }) (fun _ _ => False) { s₁ with heap := h, toks := tk }
/-- a comprehension over a list of one -/
theorem compC_one {elt iter : PySem.Expr} {x : PySem.Str} {px : Pos} {scope : Scope} {cl : List (PySem.Str × Addr)} {pos : Pos} {Q : Value → Shared → Prop} {v : Value} {hp : Heap} (F₀ : Fr h₀ L hp m)
    (hclos : closureFor scope env = pure cl) (hcell : ∀ y ∈ scope.names, y.2 ≠ .cell) (hkind : scope.kind = .function)
    (hnames : ∀ y ∈ scope.names, y.2 = .local → scope.names.lookup y.1 = some .local) (hx : scope.names.lookup x = some .local) (hh : A.handled = none)
    (h : wpAny (model prog w) A (eval iter env) (CompOne prog w A h₀ L m env elt x scope cl v Q) E s)
    (hs : ∀ x, foldedSetIterable iter env x = pure x := by intro _; rfl) :
    wpC (model prog w) A (eval (.ListComp elt [⟨.Name x px, iter, [], 0⟩] scope pos) env) Q E s := by
  rw [eval_ListComp]
  refine wpC_comprehension rfl hs hclos hkind hnames (wpAny_mono h (fun xv s₁ h₁ => ?_) fun _ _ e => e)
  obtain ⟨ax, news, rfl, F, N, hm, turn⟩ := h₁
  have hl := N.isList hm
  have hlt : ax < s₁.heap.objs.size := by obtain ⟨_, e, _⟩ := hl; exact Heap.lt_size e
  refine wpAny_pyIter_list hl ?_
  refine blockC_one (RR := fun acc C r s' => r = .ok .next ∧ ∃ m, s'.heap.Ns C m ∧ ∀ h', Heap.SameBut C s'.heap h' → Q acc { s' with heap := h' }) (s₂ := { s₁ with heap := s₁.heap.push { cls := .type "list_iterator", data := .fields #[.ref ax, .int 0 0] } }) (Walks.list hh s₁.heap.objs.size ax (Nat.ne_of_lt hlt) [v].toArray) (fun i h st => by obtain ⟨o, e, _⟩ := st.1; exact ⟨o, e⟩)
    (fun i h h' o st e e' N' => ⟨by obtain ⟨o', q, r⟩ := st.1; rw [e] at q; cases q; exact ⟨o, e', r⟩, N'.isList hm⟩) hcell hkind hx ⟨⟨_, Heap.get?_push_size _ rfl, rfl, rfl⟩, hl.push _⟩ (fun b hb => ?_)
    (F.keeps fun b o e => Heap.get?_push_of_some _ e) (N.grown fun b o e => Heap.get?_push_of_some _ e) (Nat.ne_of_lt F.ns.lt) (next_is_new F) (fun p hp => Nat.ne_of_lt (Heap.lt_size (N p hp).1))
    (fun v' oI C oC D m₂ h tk hP hC hx' F' N' => ?_)
  · show b < (s₁.heap.push _).objs.size
    rw [Heap.size_push]
    rcases List.mem_cons.mp hb with rfl | hb
    · exact Nat.lt_succ_self _
    · rw [List.mem_singleton.mp hb]; exact Nat.lt_succ_of_lt hlt
  · obtain rfl : v = v' := by simpa using hP
    refine wpC_mono (turn _ oI C oC D m₂ h tk hC hx' F' N') (fun y s₂ z => ⟨z.1, fun D C h tk m' F₂ N₂ hn hC₀ hCL hCD offC => ⟨rfl, m', hn, fun h'' hs'' => z.2 D h'' tk (F₂.change hs'' hCL hC₀) fun p hp => ?_⟩⟩) fun _ _ q => q
    refine ⟨hs''.extBut _ _ ?_ (N₂ p hp).1, (N₂ p hp).2⟩
    rcases List.mem_cons.mp hp with rfl | hp
    · exact Ne.symm hCD
    · exact offC p hp
end

/-- an ASCII text of at most n signs -/
def Asc (n : Nat) (x : PySem.Str) : Prop := (∀ c ∈ x.cps.toList, c < 128) ∧ x.cps.toList.length ≤ n
theorem Asc.app {n k : Nat} {x y : PySem.Str} (hx : Asc n x) (hy : Asc k y) : Asc (n + k) (x ++ y) := by
  have e : (x ++ y).cps.toList = x.cps.toList ++ y.cps.toList := by show (x.cps ++ y.cps).toList = _; simp
  refine ⟨fun c hc => ?_, ?_⟩
  · rw [e] at hc
    rcases List.mem_append.mp hc with q | q
    · exact hx.1 c q
    · exact hy.1 c q
  · rw [e, List.length_append]
    exact Nat.add_le_add hx.2 hy.2
theorem Asc.up {n : Nat} {x : PySem.Str} (hx : Asc n x) : Asc n (upS x) := by
  refine ⟨fun c hc => ?_, ?_⟩
  · have hc : c ∈ x.cps.toList.map upC := by simpa [upS] using hc
    obtain ⟨d, hd, rfl⟩ := List.mem_map.mp hc
    have := hx.1 d hd
    unfold upC
    split <;> omega
  · show (x.cps.toList.map upC).toArray.toList.length ≤ n
    simpa using hx.2
theorem Asc.sp : Asc 1 (Str.ofString " ") := by unfold Asc; decide
theorem Asc.to {n : Nat} {x : PySem.Str} (hx : Asc n x) (hn : n ≤ 1024) : (∀ c ∈ x.cps.toList, c < 128) ∧ x.cps.toList.length ≤ 1024 := ⟨hx.1, Nat.le_trans hx.2 hn⟩
theorem add_asc {prog : Program} {w : World} {A : Around} {E : Value → Shared → Prop} {s : Shared} {n k : Nat} {x y : PySem.Str} {t u : Tok} {Q : Value → Shared → Prop} (hx : Asc n x) (hy : Asc k y) (hn : n + k ≤ 4000)
    (h : ∀ t' tk, Q (.str (x ++ y) t') { s with toks := tk }) : wpAny (model prog w) A (binaryOp .Add (.str x t) (.str y u)) Q E s :=
  PyProof.Rows.add_str h (by
    have h1 : x.length ≤ n := hx.2
    have h2 : y.length ≤ k := hy.2
    rw [sizeLine_eq]; omega)
/-- octets of at most n -/
def LB (n : Nat) (O : List UInt8) : Prop := O.length ≤ n
theorem LB.app {n k : Nat} {O P : List UInt8} (hO : LB n O) (hP : LB k P) : LB (n + k) (O ++ P) := by unfold LB at *; rw [List.length_append]; omega
theorem LB.oct {n : Nat} {x : PySem.Str} (h : Asc n x) : LB n (octs x) := by unfold LB; rw [octs_len]; exact h.2
theorem LB.lit {O : List UInt8} (h : O.length ≤ 16) : LB 16 O := h
theorem LB.tx {n : Nat} {ns : List Nat} (h : ns.length ≤ n) : LB n (octs (tx ns)) := by unfold LB; rw [octs_len]; exact h
theorem add_bl {prog : Program} {w : World} {A : Around} {E : Value → Shared → Prop} {s : Shared} {n k : Nat} {O P : List UInt8} {t u : Tok} {Q : Value → Shared → Prop} (hO : LB n O) (hP : LB k P) (hn : n + k ≤ 4000)
    (h : ∀ t' tk, Q (.bytes (O ++ P).toArray t') { s with toks := tk }) : wpAny (model prog w) A (binaryOp .Add (.bytes O.toArray t) (.bytes P.toArray u)) Q E s :=
  KBy.add_bytes (by
    have h1 : O.length ≤ n := hO
    have h2 : P.length ≤ k := hP
    simp only [List.size_toArray]; omega) (by
    have e : O.toArray ++ P.toArray = (O ++ P).toArray := by simp
    rw [e]; exact h)
/-- a value of a code, and what it is on the wire -/
def Worth (v : Value) (P : List UInt8) : Prop := (∃ t, v = .int 7 t ∧ P = [55]) ∨ ∃ t, v = .bytes [120].toArray t ∧ P = [34, 120, 34]
/-- what a status answer's code is, and what it is on the wire -/
def CodeAt (cv : Value) (Y : List UInt8) (news : List (Addr × Obj)) : Prop :=
  (cv = .none ∧ Y = []) ∨ ∃ c v P, cv = .ref c ∧ (c, ls1 v) ∈ news ∧ Y = [91] ++ P ++ [93, 32] ∧ Worth v P
theorem Worth.len {v : Value} {P : List UInt8} (h : Worth v P) : LB 3 P := by
  rcases h with ⟨_, _, rfl⟩ | ⟨_, _, rfl⟩ <;> (unfold LB; decide)
theorem News.and {h₀ h : Heap} {L : Addr} {news : List (Addr × Obj)} {p : Addr × Obj} (N : News h₀ L h news) (hp : p ∈ news) : News h₀ L h (p :: news) := fun q hq => by
  rcases List.mem_cons.mp hq with rfl | hq
  · exact N _ hp
  · exact N q hq

theorem reg57 : True := by
  k_with "mine:z_asc" => first | (with_reducible assumption) | (with_reducible exact Asc.sp) | (with_reducible exact Asc.up (by walk_at "mine:z_asc")) | (with_reducible exact Asc.app (by walk_at "mine:z_asc") (by walk_at "mine:z_asc"))
  k_with "binaryOp Add str str" => (k_here; (refine' add_asc ?hx ?hy ?hn ?_; (case hx => walk_at "mine:z_asc"); (case hy => walk_at "mine:z_asc"); (case hn => decide)); intro _ _)
  trivial
theorem reg58 : True := by
  k_with "mine:z_len" => first | (with_reducible assumption) | (with_reducible exact LB.oct (by walk_at "mine:z_asc")) | (with_reducible exact LB.app (by walk_at "mine:z_len") (by walk_at "mine:z_len")) | (with_reducible exact LB.lit (by decide))
  k_with "binaryOp Add bytes bytes" => (k_here; (refine' add_bl ?hx ?hy ?hn ?_; (case hx => walk_at "mine:z_len"); (case hy => walk_at "mine:z_len"); (case hn => decide)); intro _ _)
  trivial
theorem reg59 : True := by
  k_with "call ref" => (k_here; (with_reducible show wpAny _ _ (call (Value.ref 240) _) _ _ _); k_dflt (refine' c_text_octets ?k1 ?k2 ?k3 ?k4 ?k5 ?kK ?kp ?kd ?ku ?_; (case k1 => k_asm); (case k2 => k_asm); (case k3 => k_asm); (case k4 => k_asm); (case k5 => k_asm); (case kK => first | exact rfl | assumption); (case kp => exact Asc.to (by walk_at "mine:z_asc") (by decide)); (case kd => ktr_room); (case ku => ktr_units); k_whole); intro _ _ _ _ _; (try dsimp only); (try k_fold))
  trivial
theorem reg60 : True := by
  k_with "call ref" => (k_here; (with_reducible show wpAny _ _ (call (Value.ref 230) _) _ _ _); k_dflt (refine' c_upper_text ?k1 ?k2 ?k3 ?k4 ?k5 ?kK ?kp ?kd ?ku ?_; (case k1 => k_asm); (case k2 => k_asm); (case k3 => k_asm); (case k4 => k_asm); (case k5 => k_asm); (case kK => first | exact rfl | assumption); (case kp => exact Asc.to (by walk_at "mine:z_asc") (by decide)); (case kd => ktr_room); (case ku => ktr_units); k_whole); intro _ _ _ _ _; (try dsimp only); (try k_fold))
  trivial
theorem by_join_slot : Slot "bytes" "join" "bytes.join" :=
  .of (owner := "bytes") (n := "join") (by rw [typeLookup_type, builtinLookup_eq_fast]; kernel_rfl) (by decide +kernel) (by decide +kernel) (by decide +kernel)
    (by first | exact .inl (by decide +kernel) | exact .inr (by decide +kernel)) (by rw [isSubtype_type]; kernel_rfl)
theorem by_join_ty : typeOf (.builtin "bytes.join") = pure (.type "method_descriptor") := by kernel_rfl
theorem by_entry_join : entryFor table "bytes.join" = some Builtin.«bytes.join» := by first | exact entryFor_of_fast (by kernel_rfl) | exact entryFor_of_tree (by kernel_rfl)
section
variable {prog : Program} {w : World} {A : Around} {E : Value → Shared → Prop} {s : Shared}
theorem method_join {b : Array UInt8} {t : Tok} {pl : Sem Bool} {Q : Value × List Value → Shared → Prop} (h : Q (.builtin "bytes.join", [.bytes b t]) s) : wpAny (model prog w) A (getMethod (.bytes b t) (PySem.Str.ofString "join") pl) Q E s :=
  by with_reducible exact KBd.method_of (.bytes b t) (typeIs_bytes _ _ _) by_join_slot by_join_ty KBd.noRef h
theorem call_join {h₀ : Heap} {L D : Addr} {news : List (Addr × Obj)} {b c : Array UInt8} {t u : Tok} {Q : Value → Shared → Prop} (N : News h₀ L s.heap ((D, LCg.lst [.bytes c u]) :: news)) (h : Q (.bytes c u) s) :
    wpAny (model prog w) A (call (.builtin "bytes.join") [.bytes b t, .ref D]) Q E s := by
  have hD := (N _ (.head _)).1
  have hT : s.TypeIs (.ref D) "list" := ⟨_, hD, rfl⟩
  refine wpAny_call_entry by_join_slot (typeIs_bytes _ _ _) by_entry_join ?_ (by unfold argsOk; kernel_rfl)
  unfold Builtin.«bytes.join» Builtin.Bytes.joinM
  refine wpAny_bind ?_
  refine wpAny_of_eq (a := (.bytes b t, .ref D)) rfl ?_
  dsimp only
  refine wpAny_bind ?_
  unfold Builtin.Bytes.joinItems
  refine wpAny_bind ?_
  refine wpAny_typeOf hT ?_
  refine wpAny_pure ?_
  refine wpAny_bind ?_
  refine wpAny_seqItems hD rfl ?_
  refine wpAny_bind ?_
  refine wpAny_typeOf (typeIs_bytes _ _ _) ?_
  rw [if_pos (by rfl)]
  exact wpAny_bind (wpAny_rule (wpAny_pure ⟨_, rfl, h⟩))
end

theorem reg61 : True := by
  k_with "getMethod bytes" => (k_here; (with_reducible show wpAny _ _ (getMethod (Value.bytes _ _) (PySem.Str.ofString "join") _) _ _ _); (with_reducible refine method_join ?_))
  trivial
theorem FlyD.drop1 {base G : Heap} {l : List Env} {e dx : Addr} {a0 : Value} {p q : Addr × Obj} {news : List (Addr × Obj)} {h : Heap} (x : FlyD base G l e dx a0 (p :: q :: news) h) : FlyD base G l e dx a0 (p :: news) h :=
  x.mono fun r hr => by
    rcases List.mem_cons.mp hr with rfl | hr
    · exact .head _
    · exact .tail _ (.tail _ hr)

def JoinEnd (g : Heap) (L : Addr) (m0 : PySem.Str → Option Value) (x : PySem.Str) (news : List (Addr × Obj)) (s : Shared) (P : Value → Prop) (f : Flow) (s' : Shared) : Prop :=
  f = .next ∧ ∃ v h tk, P v ∧ s' = { s with heap := h, toks := tk } ∧ Fr g L h (fun y => if y = x then some v else m0 y) ∧ News g L h news
theorem joinV {M : Model} {A : Around} {E : Value → Shared → Prop} {Q : Flow → Shared → Prop} {s : Shared} {env : Env} {g h : Heap} {L : Addr} {m0 : PySem.Str → Option Value} {x : PySem.Str} {ov : Option Value} {st : Stmt} {rest : List Stmt} {news : List (Addr × Obj)} (P : Value → Prop)
    (F : Fr g L h (fun y => if y = x then ov else m0 y)) (N : News g L h news)
    (h2 : ∀ v h tk, P v → Fr g L h (fun y => if y = x then some v else m0 y) → News g L h news → wpC M A (execs rest env) Q E { s with heap := h, toks := tk })
    (h1 : wpC M A (exec st env) (JoinEnd g L m0 x news s P) E s) : wpC M A (execs (st :: rest) env) Q E s := by
  refine wpC_execs_cons (wpC_mono h1 (fun f s' z => ?_) fun _ _ e => e)
  obtain ⟨rfl, v, h, tk, hP, rfl, F', N'⟩ := z
  exact h2 v h tk hP F' N'
theorem Fr.over {g h : Heap} {L : Addr} {m0 : PySem.Str → Option Value} {x : PySem.Str} {ov ow : Option Value} (F : Fr g L h (fun y => if y = x then ov else if y = x then ow else m0 y)) : Fr g L h (fun y => if y = x then ov else m0 y) := by
  have e : (fun y => if y = x then ov else if y = x then ow else m0 y) = fun y => if y = x then ov else m0 y := funext fun y => by by_cases h : y = x <;> simp [h]
  rw [e] at F
  exact F

theorem c_wval {w : World} {mean : ExcName → Option Value} {mg mb : PySem.Str → Option Value} {dp un : Nat} {gd : Option (List Code)} {cn : PySem.Str} {cs : Scope} {a : Addr} {ccd : Value} {cl : List (PySem.Str × Addr)} {outer : List Env} {A₀ : Around} {base h₀ : Heap} {L : Addr} {m : PySem.Str → Option Value} {s : Shared} {Q E : Value → Shared → Prop} {v : Value} {P : List UInt8} {news : List (Addr × Obj)}
    (B : Below A₀ base outer h₀) (F : Fr h₀ L s.heap m) (X : (hd.heap_1 w.params).In h₀) (N : News h₀ L s.heap news) (T : Top topProg Lz mean mg mb h₀) (hk : cs.kind = .function) (hp : Worth v P) (hdp : dp + 10 < recursionLimit) (hun : un + 80 < cLine)
    (hret : ∀ (t' : Tok) (h' : Heap) (tk' : Nat), Fr h₀ L h' m → News h₀ L h' news → Q (.bytes P.toArray t') { s with heap := h', toks := tk' }) :
    wpC (model PySem.Challenge.rw_nz0333_01.row.prog w) (ktrTop dp un gd cn cs L a ccd cl outer) (call (.ref 593) [v]) Q E s := by
  rcases hp with ⟨t, rfl, rfl⟩ | ⟨t, rfl, rfl⟩
  · refine wpC_of ?_
    k_dflt (refine' c_wval7 ?k1 ?k2 ?k3 ?k4 ?k5 ?kK ?kp ?kd ?ku ?_; (case k1 => k_asm); (case k2 => k_asm); (case k3 => k_asm); (case k4 => k_asm); (case k5 => k_asm); (case kK => first | exact rfl | assumption); (case kp => trivial); (case kd => ktr_room); (case ku => ktr_units))
    exact hret
  · k_dflt (refine' c_wvalx ?k1 ?k2 ?k3 ?k4 ?k5 ?kK ?kp ?kd ?ku ?_; (case k1 => k_asm); (case k2 => k_asm); (case k3 => k_asm); (case k4 => k_asm); (case k5 => k_asm); (case kK => first | exact rfl | assumption); (case kp => trivial); (case kd => ktr_room); (case ku => ktr_units))
    exact hret

theorem c_status {w : World} {mean : ExcName → Option Value} {mg mb : PySem.Str → Option Value} {dp un : Nat} {gd : Option (List Code)} {cn : PySem.Str} {cs : Scope} {a : Addr} {ccd : Value} {cl : List (PySem.Str × Addr)} {outer : List Env} {A₀ : Around} {base h₀ : Heap} {L : Addr} {m : PySem.Str → Option Value} {s : Shared} {Q E : Value → Shared → Prop} {x y : PySem.Str} {ta : Addr} {cv : Value} {Y : List UInt8} {ns : List Nat} {u1 u2 u3 : Tok} {news : List (Addr × Obj)}
    (B : Below A₀ base outer h₀) (F : Fr h₀ L s.heap m) (X : (hd.heap_1 w.params).In h₀) (N : News h₀ L s.heap news) (T : Top topProg Lz mean mg mb h₀) (hk : cs.kind = .function) (hp : ((ta, tupO [.str x u1, .str y u2, cv, .str (tx ns) u3]) ∈ news ∧ CodeAt cv Y news ∧ Asc 8 x ∧ Asc 8 y ∧ LB 8 Y) ∧ ns.length ≤ 1000 ∧ (∀ (i : Nat), bad ns = some i → ∀ (e dx t₁ : Addr) (what : PySem.Str) (tw ta k1 k2 : Tok) (g' h' : Heap) (tk' : Nat), Fr h₀ L g' m → FlyD base g' (envX cn cs L a ccd cl :: outer) e dx (.ref t₁) ((dx, exD w.params what tw (i : Int) ta k1 k2) :: news) h' → g'.UpToSlots h' → E (.ref e) { s with heap := h', toks := tk' })) (hdp : dp + 14 < recursionLimit) (hun : un + 128 < cLine)
    (hret : bad ns = none → ∀ (t' : Tok) (h' : Heap) (tk' : Nat), Fr h₀ L h' m → News h₀ L h' news → Q (.bytes (octs (y ++ Str.ofString " " ++ upS x ++ Str.ofString " ") ++ Y ++ octs (tx ns)).toArray t') { s with heap := h', toks := tk' }) :
    wpC (model PySem.Challenge.rw_nz0333_01.row.prog w) (ktrTop dp un gd cn cs L a ccd cl outer) (call (.ref 639) [.ref ta]) Q E s := by
  obtain ⟨⟨hT, hc, hx, hy, hX⟩, hn, herr⟩ := hp
  replace N := News.and N hT
  have hn2 : LB 1000 (octs (tx ns)) := LB.tx hn
  refine wpC_call ?_
  k_dflt walk_at "mine:cell_enterC"
  refine wpC_execs_cons ?_
  refine wpC_of ?_
  k_steps
  dsimp only
  with_reducible rename Fr _ _ _ _ => F8
  with_reducible rename News _ _ _ _ => N8
  refine joinV (fun v => ∃ t, v = .bytes Y.toArray t) F8 N8 ?_ ?_
  · rintro _ h9 tk9 ⟨t9, rfl⟩ F9 N9
    refine wpC_of ?_
    k_steps
    · k_dflt (refine' leave_onX ?K ?F ?R ?U ?_; (case K => assumption); (case F => first | with_reducible assumption | assumption); (case R => first | with_reducible assumption | assumption); (case U => with_reducible assumption))
      intro h8 R8 U8
      exact herr _ (by with_reducible assumption) _ _ _ _ _ _ _ _ _ _ _ (by with_reducible assumption) (FlyD.drop1 R8) (by with_reducible assumption)
    · exact hret (by with_reducible assumption) _ _ _ (by k_asm) (by walk_at "mine:kn")
  · rcases hc with ⟨rfl, rfl⟩ | ⟨c, v, P, rfl, hcm, rfl, hv⟩
    · refine wpC_of ?_
      k_steps
      exact ⟨rfl, _, _, _, ⟨_, rfl⟩, rfl, by k_asm, by walk_at "mine:kn"⟩
    · have hP3 := hv.len
      refine wpC_If ?_
      refine wpC_of ?_
      k_steps
      refine wpC_execs_cons ?_
      refine wpC_Assign_Name ?_
      refine wpC_BinOp ?_
      refine wpC_BinOp ?_
      refine wpC_of ?_
      k_steps
      refine wpC_MethodCall ?_
      k_steps
      refine wpC_callWith_builtin ?_
      refine wpC_args_cons ?_
      k_dflt (refine' compC_one (v := v) (F₀ := by k_asm) ?kA ?kB ?kC ?kD ?kE ?kH ?_; (case kA => rfl); (case kB => decide); (case kC => rfl); (case kD => decide); (case kE => rfl); (case kH => rfl))
      k_steps
      refine ⟨_, _, rfl, by k_asm, by k_asm, .tail _ hcm, ?_⟩
      intro I9 oI9 C9 oC9 D9 m9 h9 tk9 hC9 hx9 F9 N9
      refine wpC_Call ?_
      k_steps
      refine wpC_callWith_K (K := hd.heap_1 w.params) (by k_is) ?_
      refine wpC_args_cons ?_
      refine wpC_of ?_
      k_steps
      refine wpC_args_nil ⟨by k_in, ?_⟩
      k_dflt (refine' c_wval ?k1 ?k2 ?k3 ?k4 ?k5 ?kK ?kp ?kd ?ku ?_; (case k1 => k_asm); (case k2 => k_asm); (case k3 => k_asm); (case k4 => k_asm); (case k5 => k_asm); (case kK => first | exact rfl | assumption); (case kp => exact hv); (case kd => ktr_room); (case ku => ktr_units))
      intro t8 h8 tk8 F8 N8
      refine ⟨⟨_, _, rfl, by k_asm, by k_asm⟩, fun D7 h7 tk7 F7 N7 => ?_⟩
      refine wpC_args_nil ?_
      refine wpC_of (call_join (by k_asm) ?_)
      walk_at "mine:c_s"
      walk_at "mine:c_s"
      walk_at "mine:c_s"
      walk_at "mine:c_s"
      refine wpC_of ?_
      refine wpAny_execs_nil ?_
      exact ⟨rfl, _, _, _, ⟨_, rfl⟩, rfl, by first | k_asm | exact Fr.over (by k_asm), by walk_at "mine:kn"⟩

theorem reg62 : True := by
  k_with "mine:pass_it" => ((k_dflt (refine' leave_onX ?K ?F ?R ?U ?_; (case K => assumption); (case F => first | with_reducible assumption | assumption); (case R => first | with_reducible assumption | assumption); (case U => with_reducible assumption))))
  trivial
/-- the words of a status answer that the law writes -/
def Word (x : PySem.Str) : Prop := x = Str.ofString "ok" ∨ x = Str.ofString "no" ∨ x = Str.ofString "bad"
theorem CodeAt.mono {cv : Value} {Y : List UInt8} {news news' : List (Addr × Obj)} (h : CodeAt cv Y news) (k : ∀ p ∈ news, p ∈ news') : CodeAt cv Y news' := by
  rcases h with h | ⟨c, v, P, e, hm, r⟩
  · exact .inl h
  · exact .inr ⟨c, v, P, e, k _ hm, r⟩
theorem Word.isin {x : PySem.Str} (h : Word x) : ([(⟨#[79, 75]⟩ : PySem.Str), ⟨#[78, 79]⟩, ⟨#[66, 65, 68]⟩, ⟨#[66, 89, 69]⟩, ⟨#[80, 82, 69, 65, 85, 84, 72]⟩].any fun y => y == upS x) = true := by
  rcases h with rfl | rfl | rfl <;> decide
theorem Word.asc {x : PySem.Str} (h : Word x) : Asc 8 x := by
  rcases h with rfl | rfl | rfl <;> (unfold Asc; decide)

theorem c_wstatus {w : World} {mean : ExcName → Option Value} {mg mb : PySem.Str → Option Value} {dp un : Nat} {gd : Option (List Code)} {cn : PySem.Str} {cs : Scope} {a : Addr} {ccd : Value} {cl : List (PySem.Str × Addr)} {outer : List Env} {A₀ : Around} {base h₀ : Heap} {L : Addr} {m : PySem.Str → Option Value} {s : Shared} {Q E : Value → Shared → Prop} {x y : PySem.Str} {ta : Addr} {cv : Value} {Y : List UInt8} {ns : List Nat} {u1 u2 u3 : Tok} {news : List (Addr × Obj)}
    (B : Below A₀ base outer h₀) (F : Fr h₀ L s.heap m) (X : (hd.heap_1 w.params).In h₀) (N : News h₀ L s.heap news) (T : Top topProg Lz mean mg mb h₀) (hk : cs.kind = .function) (hp : ((ta, tupO [.str x u1, .str y u2, cv, .str (tx ns) u3]) ∈ news ∧ CodeAt cv Y news ∧ Word x ∧ Asc 8 y ∧ LB 8 Y) ∧ ns.length ≤ 1000 ∧ (∀ (i : Nat), bad ns = some i → ∀ (e dx t₁ : Addr) (what : PySem.Str) (tw ta k1 k2 : Tok) (g' h' : Heap) (tk' : Nat), Fr h₀ L g' m → FlyD base g' (envX cn cs L a ccd cl :: outer) e dx (.ref t₁) ((dx, exD w.params what tw (i : Int) ta k1 k2) :: news) h' → g'.UpToSlots h' → E (.ref e) { s with heap := h', toks := tk' })) (hdp : dp + 16 < recursionLimit) (hun : un + 144 < cLine)
    (hret : bad ns = none → ∀ (t' : Tok) (h' : Heap) (tk' : Nat), Fr h₀ L h' m → News h₀ L h' news → Q (.bytes (octs (y ++ Str.ofString " " ++ upS x ++ Str.ofString " ") ++ Y ++ octs (tx ns) ++ [13, 10]).toArray t') { s with heap := h', toks := tk' }) :
    wpC (model PySem.Challenge.rw_nz0333_01.row.prog w) (ktrTop dp un gd cn cs L a ccd cl outer) (call (.ref 667) [.ref ta]) Q E s := by
  obtain ⟨⟨hT, hc, hw, hy, hX⟩, hn, herr⟩ := hp
  replace N := News.and N hT
  have hn2 : LB 1000 (octs (tx ns)) := LB.tx hn
  have hx := hw.asc
  refine wpC_call ?_
  k_dflt walk_at "mine:cell_enterC"
  refine wpC_execs_cons ?_
  refine wpC_If ?_
  refine wpC_of ?_
  k_steps
  · refine wpC_execs_cons ?_
    refine wpC_Return ?_
    refine wpC_BinOp ?_
    refine wpC_Call ?_
    k_steps
    refine wpC_callWith_K (K := hd.heap_1 w.params) (by k_is) ?_
    refine wpC_args_cons ?_
    refine wpC_of ?_
    k_steps
    refine wpC_args_nil ⟨by k_in, ?_⟩
    k_dflt (refine' c_status ?k1 ?k2 ?k3 ?k4 ?k5 ?kK ?kp ?kd ?ku ?_; (case k1 => k_asm); (case k2 => k_asm); (case k3 => k_asm); (case k4 => k_asm); (case k5 => k_asm); (case kK => first | exact rfl | assumption); (case kp => refine ⟨⟨.tail _ (.head _), hc.mono fun p hp => .tail _ (.tail _ hp), hx, hy, hX⟩, hn, ?_⟩; intro i hb e dx t₁ what tw ta2 k1 k2 g2 h2 tk2 F9 R9 U9; walk_at "mine:pass_it"; intro h8 R8 U8; exact herr _ hb _ _ _ _ _ _ _ _ _ _ _ (by with_reducible assumption) (FlyD.cut0 R8) (by with_reducible assumption)); (case kd => ktr_room); (case ku => ktr_units))
    intro hb t9 h9 tk9 F9 N9
    walk_at "mine:c_s"
    walk_at "mine:c_s"
    exact hret hb _ _ _ (by k_asm) (by walk_at "mine:kn")
  · rw [hw.isin] at *
    contradiction

theorem c_wgo {w : World} {mean : ExcName → Option Value} {mg mb : PySem.Str → Option Value} {dp un : Nat} {gd : Option (List Code)} {cn : PySem.Str} {cs : Scope} {a : Addr} {ccd : Value} {cl : List (PySem.Str × Addr)} {outer : List Env} {A₀ : Around} {base h₀ : Heap} {L : Addr} {m : PySem.Str → Option Value} {s : Shared} {Q E : Value → Shared → Prop} {ta : Addr} {ns : List Nat} {u1 u2 : Tok} {news : List (Addr × Obj)}
    (B : Below A₀ base outer h₀) (F : Fr h₀ L s.heap m) (X : (hd.heap_1 w.params).In h₀) (N : News h₀ L s.heap news) (T : Top topProg Lz mean mg mb h₀) (hk : cs.kind = .function) (hp : ((ta, tupO [.str (Str.ofString "go on") u1, .str (tx ns) u2]) ∈ news) ∧ ns.length ≤ 1000 ∧ (∀ (i : Nat), bad ns = some i → ∀ (e dx t₁ : Addr) (what : PySem.Str) (tw ta k1 k2 : Tok) (g' h' : Heap) (tk' : Nat), Fr h₀ L g' m → FlyD base g' (envX cn cs L a ccd cl :: outer) e dx (.ref t₁) ((dx, exD w.params what tw (i : Int) ta k1 k2) :: news) h' → g'.UpToSlots h' → E (.ref e) { s with heap := h', toks := tk' })) (hdp : dp + 14 < recursionLimit) (hun : un + 128 < cLine)
    (hret : bad ns = none → ∀ (t' : Tok) (h' : Heap) (tk' : Nat), Fr h₀ L h' m → News h₀ L h' news → Q (.bytes ([43, 32] ++ octs (tx ns) ++ [13, 10]).toArray t') { s with heap := h', toks := tk' }) :
    wpAny (model PySem.Challenge.rw_nz0333_01.row.prog w) (ktrTop dp un gd cn cs L a ccd cl outer) (call (.ref 667) [.ref ta]) Q E s := by
  obtain ⟨hT, hn, herr⟩ := hp
  replace N := News.and N hT
  have hn2 : LB 1000 (octs (tx ns)) := LB.tx hn
  have ha : Asc 8 (Str.ofString "go on") := by unfold Asc; decide
  refine wpAny_call ?_
  k_dflt cell_enter
  k_steps
  · walk_at "mine:pass_it"
    intro h8 R8 U8
    exact herr _ (by with_reducible assumption) _ _ _ _ _ _ _ _ _ _ _ (by with_reducible assumption) (FlyD.cut0 R8) (by with_reducible assumption)
  · exact hret (by with_reducible assumption) _ _ _ (by k_asm) (by walk_at "mine:kn")

theorem reg63 : True := by
  k_with "mine:try_inC" => (refine' codeC_defS0 ?k1 ?k2 ?k3 ?k4 ?k5 ?kA ?kF ?kK ?k6 ?k7 ?k8 ?k9 ?kB ?_ ?c2 ?c3 ?c4 ?c5; (case kA => exact rfl); (case kF => exact rfl); (case kK => assumption); (case k2 => k_asm); (case k1 => k_asm); (case k3 => k_asm); (case k4 => k_asm); (case k5 => k_asm); (case k6 => k_is); (case k7 => k_is); (case k8 => ktr_room); (case k9 => exact BindsTo.of_eq rfl); (case kB => exact locs rfl); (case c2 => exact rfl); (case c3 => exact rfl); (case c4 => exact rfl); (case c5 => decide); k_whole; intro g' L' h' FG' F' N' B' X' T' D'; (try dsimp only); (try k_fold))
  trivial
theorem c_lcheck {w : World} {mean : ExcName → Option Value} {mg mb : PySem.Str → Option Value} {dp un : Nat} {gd : Option (List Code)} {cn : PySem.Str} {cs : Scope} {a : Addr} {ccd : Value} {cl : List (PySem.Str × Addr)} {outer : List Env} {A₀ : Around} {base h₀ : Heap} {L : Addr} {m : PySem.Str → Option Value} {s : Shared} {Q E : Value → Shared → Prop} {ns : List Nat} {t : Tok} {news : List (Addr × Obj)}
    (B : Below A₀ h₀ [] h₀) (F : Fr h₀ L s.heap m) (X : (hd.heap_1 w.params).In h₀) (N : News h₀ L s.heap news) (T : Top topProg Lz mean mg mb h₀) (hk : cs.kind = .function) (hp : ns.length ≤ 1000) (hdp : dp + 8 < recursionLimit) (hun : un + 64 < cLine)
    (hret : (bad ns = none → ∀ (t' : Tok) (h' : Heap) (tk' : Nat), Fr h₀ L h' m → News h₀ L h' news → Q (.bytes (octs (tx ns)).toArray t') { s with heap := h', toks := tk' }) ∧ ∀ i, bad ns = some i → ∀ (t' : Tok) (h' : Heap) (tk' : Nat), Fr h₀ L h' m → News h₀ L h' news → Q (.int (i : Int) t') { s with heap := h', toks := tk' }) :
    wpC (model PySem.Challenge.rw_nz0333_01.row.prog w) (ktrTop dp un gd cn cs L a ccd cl []) (call (.ref 807) [.str (tx ns) t]) Q E s := by
  refine wpC_call ?_
  k_dflt walk_at "mine:try_inC"
  refine wpC_of ?_
  k_steps
  · exact hret.2 _ (by with_reducible assumption) _ _ _ (by k_asm) (by walk_at "mine:kn")
  · exact hret.1 (by with_reducible assumption) _ _ _ (by k_asm) (by walk_at "mine:kn")

theorem c_lwstatus {w : World} {mean : ExcName → Option Value} {mg mb : PySem.Str → Option Value} {dp un : Nat} {gd : Option (List Code)} {cn : PySem.Str} {cs : Scope} {a : Addr} {ccd : Value} {cl : List (PySem.Str × Addr)} {outer : List Env} {A₀ : Around} {base h₀ : Heap} {L : Addr} {m : PySem.Str → Option Value} {s : Shared} {Q E : Value → Shared → Prop} {x y : PySem.Str} {ta : Addr} {cv : Value} {Y : List UInt8} {ns : List Nat} {u1 u2 u3 : Tok} {news : List (Addr × Obj)}
    (B : Below A₀ h₀ [] h₀) (F : Fr h₀ L s.heap m) (X : (hd.heap_1 w.params).In h₀) (N : News h₀ L s.heap news) (T : Top topProg Lz mean mg mb h₀) (hk : cs.kind = .function) (hp : ((ta, tupO [.str x u1, .str y u2, cv, .str (tx ns) u3]) ∈ news ∧ CodeAt cv Y news ∧ Word x ∧ Asc 8 y ∧ LB 8 Y) ∧ ns.length ≤ 1000) (hdp : dp + 18 < recursionLimit) (hun : un + 160 < cLine)
    (hret : (bad ns = none → ∀ (t' : Tok) (h' : Heap) (tk' : Nat), Fr h₀ L h' m → News h₀ L h' news → Q (.bytes (octs (y ++ Str.ofString " " ++ upS x ++ Str.ofString " ") ++ Y ++ octs (tx ns) ++ [13, 10]).toArray t') { s with heap := h', toks := tk' }) ∧ ∀ i, bad ns = some i → ∀ (t' : Tok) (h' : Heap) (tk' : Nat), Fr h₀ L h' m → News h₀ L h' news → Q (.int (i : Int) t') { s with heap := h', toks := tk' }) :
    wpC (model PySem.Challenge.rw_nz0333_01.row.prog w) (ktrTop dp un gd cn cs L a ccd cl []) (call (.ref 814) [.ref ta]) Q E s := by
  refine wpC_call ?_
  k_dflt walk_at "mine:try_inC"
  refine wpC_execs_cons ?_
  refine wpC_Try ?_
  refine wpC_execs_cons ?_
  refine wpC_Return ?_
  refine wpC_Call ?_
  k_steps
  refine wpC_callWith_K (K := hd.heap_1 w.params) (by k_is) ?_
  refine wpC_args_cons ?_
  refine wpC_of ?_
  k_steps
  refine wpC_args_nil ⟨by k_in, ?_⟩
  skip
  k_dflt (refine' c_wstatus ?k1 ?k2 ?k3 ?k4 ?k5 ?kK ?kp ?kd ?ku ?_; (case k1 => k_asm); (case k2 => k_asm); (case k3 => k_asm); (case k4 => k_asm); (case k5 => k_asm); (case kK => first | exact rfl | assumption); (case kp => refine ⟨hp.1, hp.2, ?_⟩; intro i hb e dx t₁ what tw ta2 k1 k2 g2 h2 tk2 F9 R9 U9; k_steps; exact hret.2 _ hb _ _ _ (by k_asm) (by walk_at "mine:kn")); (case kd => ktr_room); (case ku => ktr_units))
  intro hb t9 h9 tk9 F9 N9
  dsimp only
  k_steps
  exact hret.1 hb _ _ _ (by k_asm) (by walk_at "mine:kn")

theorem c_lwgo {w : World} {mean : ExcName → Option Value} {mg mb : PySem.Str → Option Value} {dp un : Nat} {gd : Option (List Code)} {cn : PySem.Str} {cs : Scope} {a : Addr} {ccd : Value} {cl : List (PySem.Str × Addr)} {outer : List Env} {A₀ : Around} {base h₀ : Heap} {L : Addr} {m : PySem.Str → Option Value} {s : Shared} {Q E : Value → Shared → Prop} {ta : Addr} {ns : List Nat} {u1 u2 : Tok} {news : List (Addr × Obj)}
    (B : Below A₀ h₀ [] h₀) (F : Fr h₀ L s.heap m) (X : (hd.heap_1 w.params).In h₀) (N : News h₀ L s.heap news) (T : Top topProg Lz mean mg mb h₀) (hk : cs.kind = .function) (hp : (ta, tupO [.str (Str.ofString "go on") u1, .str (tx ns) u2]) ∈ news ∧ ns.length ≤ 1000) (hdp : dp + 18 < recursionLimit) (hun : un + 160 < cLine)
    (hret : (bad ns = none → ∀ (t' : Tok) (h' : Heap) (tk' : Nat), Fr h₀ L h' m → News h₀ L h' news → Q (.bytes ([43, 32] ++ octs (tx ns) ++ [13, 10]).toArray t') { s with heap := h', toks := tk' }) ∧ ∀ i, bad ns = some i → ∀ (t' : Tok) (h' : Heap) (tk' : Nat), Fr h₀ L h' m → News h₀ L h' news → Q (.int (i : Int) t') { s with heap := h', toks := tk' }) :
    wpC (model PySem.Challenge.rw_nz0333_01.row.prog w) (ktrTop dp un gd cn cs L a ccd cl []) (call (.ref 814) [.ref ta]) Q E s := by
  refine wpC_call ?_
  k_dflt walk_at "mine:try_inC"
  refine wpC_execs_cons ?_
  refine wpC_Try ?_
  refine wpC_execs_cons ?_
  refine wpC_Return ?_
  refine wpC_Call ?_
  k_steps
  refine wpC_callWith_K (K := hd.heap_1 w.params) (by k_is) ?_
  refine wpC_args_cons ?_
  refine wpC_of ?_
  k_steps
  refine wpC_args_nil ⟨by k_in, ?_⟩
  refine wpC_of ?_
  k_dflt (refine' c_wgo ?k1 ?k2 ?k3 ?k4 ?k5 ?kK ?kp ?kd ?ku ?_; (case k1 => k_asm); (case k2 => k_asm); (case k3 => k_asm); (case k4 => k_asm); (case k5 => k_asm); (case kK => first | exact rfl | assumption); (case kp => refine ⟨hp.1, hp.2, ?_⟩; intro i hb e dx t₁ what tw ta2 k1 k2 g2 h2 tk2 F9 R9 U9; k_steps; exact hret.2 _ hb _ _ _ (by k_asm) (by walk_at "mine:kn")); (case kd => ktr_room); (case ku => ktr_units))
  intro hb t9 h9 tk9 F9 N9
  dsimp only
  k_steps
  exact hret.1 hb _ _ _ (by k_asm) (by walk_at "mine:kn")

theorem News.drop3 {h₀ h : Heap} {L : Addr} {p q r : Addr × Obj} {news : List (Addr × Obj)} (N : News h₀ L h (p :: q :: r :: news)) : News h₀ L h (p :: q :: news) := fun z hz => by
  rcases List.mem_cons.mp hz with rfl | hz
  · exact N _ (.head _)
  · rcases List.mem_cons.mp hz with rfl | hz
    · exact N _ (.tail _ (.head _))
    · exact N _ (.tail _ (.tail _ (.tail _ hz)))
theorem News.rot {h₀ h : Heap} {L : Addr} {p q r : Addr × Obj} {news : List (Addr × Obj)} (N : News h₀ L h (p :: q :: r :: news)) : News h₀ L h (q :: r :: p :: news) := fun z hz => by
  rcases List.mem_cons.mp hz with rfl | hz
  · exact N _ (.tail _ (.head _))
  · rcases List.mem_cons.mp hz with rfl | hz
    · exact N _ (.tail _ (.tail _ (.head _)))
    · rcases List.mem_cons.mp hz with rfl | hz
      · exact N _ (.head _)
      · exact N _ (.tail _ (.tail _ (.tail _ hz)))

theorem c_quotx {w : World} {mean : ExcName → Option Value} {mg mb : PySem.Str → Option Value} {dp un : Nat} {gd : Option (List Code)} {cn : PySem.Str} {cs : Scope} {a : Addr} {ccd : Value} {cl : List (PySem.Str × Addr)} {outer : List Env} {A₀ : Around} {base h₀ : Heap} {L : Addr} {m : PySem.Str → Option Value} {s : Shared} {Q E : Value → Shared → Prop} {x dx : Addr} {k1 k2 t1 t2 : Tok} {D R : List UInt8} {i : Int} {rest : List (Addr × Obj)} 
    (B : Below A₀ base outer h₀) (F : Fr h₀ L s.heap m) (X : (hd.heap_1 w.params).In h₀) (N : News h₀ L s.heap ((x, instObj 549 dx) :: (dx, wdict w.params k1 k2 D t1 (i) t2 2) :: rest)) (T : Top topProg Lz mean mg mb h₀) (hk : cs.kind = .function) (hp : At D i (34 :: 120 :: 34 :: R) ∧ @LT.lt Nat instLTNat dx x ∧ ∀ p ∈ rest, p.1 ≠ dx) (hdp : dp + 10 < recursionLimit) (hun : un + 80 < cLine)
    (hret : ∀ (t t2' : Tok) (h' : Heap) (tk' : Nat), Fr h₀ L h' m → News h₀ L h' ((x, instObj 549 dx) :: (dx, wdict w.params k1 k2 D t1 (i + 1 + 1 + 1) t2' 2) :: rest) → Q (.bytes [120].toArray t) { s with heap := h', toks := tk' }) :
    wpC (model PySem.Challenge.rw_nz0333_01.row.prog w) (ktrTop dp un gd cn cs L a ccd cl outer) (call (.ref 484) [.ref x]) Q E s := by
  obtain ⟨hp, hne, hnr⟩ := hp
  have hp0 : At D i ([34] ++ 120 :: 34 :: R) := hp
  have hp1 : At D (i + 1) (120 :: 34 :: R) := At.step (O := [34]) hp
  have hp2 : At D (i + 1 + 1) (34 :: R) := At.step (O := [120]) hp1
  have hp3 : At D (i + 1 + 1 + 1) R := At.step (O := [34]) hp2
  refine wpC_call ?_
  k_dflt walk_at "mine:cell_enterC"
  refine wpC_execs_cons ?_
  refine wpC_of ?_
  k_steps
  refine wpC_execs_cons ?_
  refine wpC_Assign_Name ?_
  refine wpC_Call ?_
  k_steps
  refine wpC_callWith_type0 (new_ba0 (by k_asm) (by k_asm) ?_)
  intro b9 h9 F9 N9 l9
  replace N9 := News.rot N9
  have hb9 : b9 ≠ dx := Nat.ne_of_gt (l9 _ (.tail _ (.head _)))
  have hn0 : ∀ p ∈ (b9, baO #[]) :: rest, p.1 ≠ dx := List.forall_mem_cons.mpr ⟨hb9, hnr⟩
  have hn1 : ∀ p ∈ (b9, baO #[120]) :: rest, p.1 ≠ dx := List.forall_mem_cons.mpr ⟨hb9, hnr⟩
  walk_at "mine:c_s"
  refine wpC_execs_cons ?_
  refine wpC_While (codeC_whileTurn (wpC_of ?_))
  k_steps
  · refine wpC_execs_cons ?_
    refine wpC_If ?_
    refine wpC_of ?_
    k_steps
    · exact absurd (by with_reducible assumption) (show peekR (120 :: 34 :: R) ≠ 92 from show ((120 : UInt8).toNat : Int) ≠ 92 by decide)
    · walk_at "mine:c_s"
      refine wpC_execs_cons ?_
      refine wpC_If ?_
      refine wpC_of ?_
      k_steps
      · exact absurd (by with_reducible assumption) (show ¬ peekR (120 :: 34 :: R) < 1 from show ¬ ((120 : UInt8).toNat : Int) < 1 by decide)
      · exact absurd (by with_reducible assumption) (show ¬ 127 < peekR (120 :: 34 :: R) from show ¬ 127 < ((120 : UInt8).toNat : Int) by decide)
      · refine in_bytes (l := [13, 10]) (show (0 : Int) ≤ ((120 : UInt8).toNat : Int) by decide) (show ((120 : UInt8).toNat : Int) < 256 by decide) ?_
        rw [show oneOf [13, 10] (peekR (120 :: 34 :: R)) = false from rfl]
        k_steps
        walk_at "mine:c_s"
        refine wpC_execs_cons ?_
        refine wpC_Expr ?_
        refine wpC_MethodCall ?_
        k_steps
        refine wpC_callWith_builtin ?_
        refine wpC_args_cons ?_
        refine wpC_of ?_
        k_steps
        refine wpC_args_nil (call_append_ba (pre := [(_, _), (_, _)]) (by k_asm) (by k_asm) ?p1 ?p2 (show (0 : Int) ≤ ((120 : UInt8).toNat : Int) by decide) (show ((120 : UInt8).toNat : Int) < 256 by decide) (by decide) ?_)
        case p1 =>
          intro p hp
          rcases List.mem_cons.mp hp with rfl | hp
          · exact Nat.ne_of_lt (l9 _ (.head _))
          · rw [List.mem_singleton.mp hp]; exact Nat.ne_of_lt (l9 _ (.tail _ (.head _)))
        case p2 => exact fun p hp => Nat.ne_of_lt (l9 p (.tail _ (.tail _ hp)))
        intro h7 F7 N7
        rw [show (#[] : Array UInt8).push (peekR (120 :: 34 :: R)).toNat.toUInt8 = #[120] from rfl] at N7
        refine ⟨fun a q => (nomatch q), ?_⟩
        refine wpC_execs_cons ?_
        refine wpC_of ?_
        k_steps
        refine wpC_of ?_
        refine wpAny_execs_nil ?_
        refine codeC_whileTurn (wpC_of ?_)
        k_steps
        · exact absurd rfl (by with_reducible assumption : peekR (34 :: R) ≠ 34)
        · refine wpC_of ?_
          refine wpAny_execs_nil ?_
          dsimp only
          refine wpC_execs_cons ?_
          refine wpC_of ?_
          k_steps
          walk_at "mine:c_s"
          with_reducible rename News _ _ _ _ => N5
          exact hret _ _ _ _ (by k_asm) (News.drop3 N5)
  · exact absurd (by with_reducible assumption) (show ¬ peekR (120 :: 34 :: R) = 34 from show ((120 : UInt8).toNat : Int) ≠ 34 by decide)

theorem c_stringx {w : World} {mean : ExcName → Option Value} {mg mb : PySem.Str → Option Value} {dp un : Nat} {gd : Option (List Code)} {cn : PySem.Str} {cs : Scope} {a : Addr} {ccd : Value} {cl : List (PySem.Str × Addr)} {outer : List Env} {A₀ : Around} {base h₀ : Heap} {L : Addr} {m : PySem.Str → Option Value} {s : Shared} {Q E : Value → Shared → Prop} {x dx : Addr} {k1 k2 t1 t2 : Tok} {D R : List UInt8} {i : Int} {rest : List (Addr × Obj)} 
    (B : Below A₀ base outer h₀) (F : Fr h₀ L s.heap m) (X : (hd.heap_1 w.params).In h₀) (N : News h₀ L s.heap ((x, instObj 549 dx) :: (dx, wdict w.params k1 k2 D t1 (i) t2 2) :: rest)) (T : Top topProg Lz mean mg mb h₀) (hk : cs.kind = .function) (hp : At D i (34 :: 120 :: 34 :: R) ∧ @LT.lt Nat instLTNat dx x ∧ ∀ p ∈ rest, p.1 ≠ dx) (hdp : dp + 12 < recursionLimit) (hun : un + 96 < cLine)
    (hret : ∀ (t t2' : Tok) (h' : Heap) (tk' : Nat), Fr h₀ L h' m → News h₀ L h' ((x, instObj 549 dx) :: (dx, wdict w.params k1 k2 D t1 (i + 1 + 1 + 1) t2' 2) :: rest) → Q (.bytes [120].toArray t) { s with heap := h', toks := tk' }) :
    wpC (model PySem.Challenge.rw_nz0333_01.row.prog w) (ktrTop dp un gd cn cs L a ccd cl outer) (call (.ref 498) [.ref x]) Q E s := by
  obtain ⟨hp, hne, hnr⟩ := hp
  refine wpC_call ?_
  k_dflt walk_at "mine:cell_enterC"
  refine wpC_execs_cons ?_
  refine wpC_Return ?_
  refine wpC_IfExp ?_
  refine wpC_of ?_
  k_steps
  · exact absurd (by with_reducible assumption) (show ¬ peekR (34 :: 120 :: 34 :: R) = 123 from show ¬ ((34 : UInt8).toNat : Int) = 123 by decide)
  · refine wpC_MethodCall ?_
    k_steps
    refine wpC_callWith_K0 (K := hd.heap_1 w.params) (by k_in) (by k_is) ?_
    k_dflt (refine' c_quotx ?k1 ?k2 ?k3 ?k4 ?k5 ?kK ?kp ?kd ?ku ?_; (case k1 => k_asm); (case k2 => k_asm); (case k3 => k_asm); (case k4 => k_asm); (case k5 => k_asm); (case kK => first | exact rfl | assumption); (case kp => exact ⟨hp, hne, hnr⟩); (case kd => ktr_room); (case ku => ktr_units))
    intro t9 t8 h9 tk9 F9 N9
    k_steps
    exact hret _ _ _ _ (by k_asm) (by walk_at "mine:kn")

theorem c_valuex {w : World} {mean : ExcName → Option Value} {mg mb : PySem.Str → Option Value} {dp un : Nat} {gd : Option (List Code)} {cn : PySem.Str} {cs : Scope} {a : Addr} {ccd : Value} {cl : List (PySem.Str × Addr)} {outer : List Env} {A₀ : Around} {base h₀ : Heap} {L : Addr} {m : PySem.Str → Option Value} {s : Shared} {Q E : Value → Shared → Prop} {x dx : Addr} {k1 k2 t1 t2 : Tok} {D R : List UInt8} {i : Int} {rest : List (Addr × Obj)} 
    (B : Below A₀ base outer h₀) (F : Fr h₀ L s.heap m) (X : (hd.heap_1 w.params).In h₀) (N : News h₀ L s.heap ((x, instObj 549 dx) :: (dx, wdict w.params k1 k2 D t1 (i) t2 2) :: rest)) (T : Top topProg Lz mean mg mb h₀) (hk : cs.kind = .function) (hp : At D i (34 :: 120 :: 34 :: R) ∧ @LT.lt Nat instLTNat dx x ∧ ∀ p ∈ rest, p.1 ≠ dx) (hdp : dp + 14 < recursionLimit) (hun : un + 112 < cLine)
    (hret : ∀ (t t2' : Tok) (h' : Heap) (tk' : Nat), Fr h₀ L h' m → News h₀ L h' ((x, instObj 549 dx) :: (dx, wdict w.params k1 k2 D t1 (i + 1 + 1 + 1) t2' 2) :: rest) → Q (.bytes [120].toArray t) { s with heap := h', toks := tk' }) :
    wpC (model PySem.Challenge.rw_nz0333_01.row.prog w) (ktrTop dp un gd cn cs L a ccd cl outer) (call (.ref 546) [.ref x]) Q E s := by
  obtain ⟨hp, hne, hnr⟩ := hp
  refine wpC_call ?_
  k_dflt walk_at "mine:cell_enterC"
  refine wpC_execs_cons ?_
  refine wpC_If ?_
  refine wpC_of ?_
  k_steps
  · refine wpC_execs_cons ?_
    refine wpC_Return ?_
    refine wpC_MethodCall ?_
    k_steps
    refine wpC_callWith_K0 (K := hd.heap_1 w.params) (by k_in) (by k_is) ?_
    k_dflt (refine' c_stringx ?k1 ?k2 ?k3 ?k4 ?k5 ?kK ?kp ?kd ?ku ?_; (case k1 => k_asm); (case k2 => k_asm); (case k3 => k_asm); (case k4 => k_asm); (case k5 => k_asm); (case kK => first | exact rfl | assumption); (case kp => exact ⟨hp, hne, hnr⟩); (case kd => ktr_room); (case ku => ktr_units))
    intro t9 t8 h9 tk9 F9 N9
    k_steps
    exact hret _ _ _ _ (by k_asm) (by walk_at "mine:kn")
  all_goals exact absurd rfl (by with_reducible assumption : peekR (34 :: 120 :: 34 :: R) ≠ 34)

theorem c_rval {w : World} {mean : ExcName → Option Value} {mg mb : PySem.Str → Option Value} {dp un : Nat} {gd : Option (List Code)} {cn : PySem.Str} {cs : Scope} {a : Addr} {ccd : Value} {cl : List (PySem.Str × Addr)} {outer : List Env} {A₀ : Around} {base h₀ : Heap} {L : Addr} {m : PySem.Str → Option Value} {s : Shared} {Q E : Value → Shared → Prop} {x dx : Addr} {k1 k2 t1 t2 : Tok} {D R : List UInt8} {i : Int} {rest : List (Addr × Obj)} {P : List UInt8}
    (B : Below A₀ base outer h₀) (F : Fr h₀ L s.heap m) (X : (hd.heap_1 w.params).In h₀) (N : News h₀ L s.heap ((x, instObj 549 dx) :: (dx, wdict w.params k1 k2 D t1 (i) t2 2) :: rest)) (T : Top topProg Lz mean mg mb h₀) (hk : cs.kind = .function) (hp : (At D i (P ++ 93 :: R) ∧ @LT.lt Nat instLTNat dx x ∧ ∀ p ∈ rest, p.1 ≠ dx) ∧ ∃ v, Worth v P) (hdp : dp + 14 < recursionLimit) (hun : un + 112 < cLine)
    (hret : ∀ v, Worth v P → ∀ (t2' : Tok) (h' : Heap) (tk' : Nat), Fr h₀ L h' m → News h₀ L h' ((x, instObj 549 dx) :: (dx, wdict w.params k1 k2 D t1 (i + P.length) t2' 2) :: rest) → Q (v) { s with heap := h', toks := tk' }) :
    wpC (model PySem.Challenge.rw_nz0333_01.row.prog w) (ktrTop dp un gd cn cs L a ccd cl outer) (call (.ref 546) [.ref x]) Q E s := by
  obtain ⟨⟨hp, hne, hnr⟩, v, hv⟩ := hp
  rcases hv with ⟨t, rfl, rfl⟩ | ⟨t, rfl, rfl⟩
  · refine wpC_of ?_
    k_dflt (refine' c_value7 (td := t1) ?k1 ?k2 ?k3 ?k4 ?k5 ?kK ?kp ?kd ?ku ?_; (case k1 => k_asm); (case k2 => k_asm); (case k3 => k_asm); (case k4 => k_asm); (case k5 => k_asm); (case kK => first | exact rfl | assumption); (case kp => exact ⟨hp, hne, hnr⟩); (case kd => ktr_room); (case ku => ktr_units))
    exact fun t9 => hret _ (.inl ⟨t9, rfl, rfl⟩)
  · k_dflt (refine' c_valuex ?k1 ?k2 ?k3 ?k4 ?k5 ?kK ?kp ?kd ?ku ?_; (case k1 => k_asm); (case k2 => k_asm); (case k3 => k_asm); (case k4 => k_asm); (case k5 => k_asm); (case kK => first | exact rfl | assumption); (case kp => exact ⟨hp, hne, hnr⟩); (case kd => ktr_room); (case ku => ktr_units))
    intro t9 t8 h9 tk9 F9 N9
    rw [show i + 1 + 1 + 1 = i + (([34, 120, 34] : List UInt8).length : Int) from by show _ = i + 3; omega] at N9
    exact hret _ (.inr ⟨t9, rfl, rfl⟩) _ _ _ F9 N9

theorem joinA {M : Model} {A : Around} {E : Value → Shared → Prop} {Q : Flow → Shared → Prop} {s : Shared} {env : Env} {g h : Heap} {L : Addr} {m0 : PySem.Str → Option Value} {x : PySem.Str} {st : Stmt} {rest : List Stmt} {news : List (Addr × Obj)} (P : Value → Prop)
    (F : Fr g L h m0) (N : News g L h news)
    (h2 : ∀ v h tk, P v → Fr g L h (fun y => if y = x then some v else m0 y) → News g L h news → wpC M A (execs rest env) Q E { s with heap := h, toks := tk })
    (h1 : wpC M A (exec st env) (JoinEnd g L m0 x news s P) E s) : wpC M A (execs (st :: rest) env) Q E s := by
  refine wpC_execs_cons (wpC_mono h1 (fun f s' z => ?_) fun _ _ e => e)
  obtain ⟨rfl, v, h, tk, hP, rfl, F', N'⟩ := z
  exact h2 v h tk hP F' N'
theorem new_ls1 {M : Model} {A : Around} {E : Value → Shared → Prop} {s : Shared} {h₀ : Heap} {L : Addr} {m : PySem.Str → Option Value} {news : List (Addr × Obj)} {v : Value} {Q : Value → Shared → Prop} (F : Fr h₀ L s.heap m) (N : News h₀ L s.heap news)
    (h : ∀ D h', Fr h₀ L h' m → News h₀ L h' ((D, ls1 v) :: news) → (∀ p ∈ news, @LT.lt Nat instLTNat p.1 D) → Q (.ref D) { s with heap := h' }) : wpAny M A (newList [v]) Q E s :=
  wpAny_newObj_type (h _ _ (F.push _) (N.push F _) fun p hp => Heap.lt_size (N p hp).1)
def JoinNext (g : Heap) (L : Addr) (m : PySem.Str → Option Value) (news : List (Addr × Obj)) (s : Shared) (f : Flow) (s' : Shared) : Prop :=
  f = .next ∧ ∃ h tk, s' = { s with heap := h, toks := tk } ∧ Fr g L h m ∧ News g L h news
theorem joinS {M : Model} {A : Around} {E : Value → Shared → Prop} {Q : Flow → Shared → Prop} {s : Shared} {env : Env} {g h : Heap} {L : Addr} {m : PySem.Str → Option Value} {st : Stmt} {rest : List Stmt} {news : List (Addr × Obj)}
    (F : Fr g L h m) (N : News g L h news)
    (h2 : ∀ h tk, Fr g L h m → News g L h news → wpC M A (execs rest env) Q E { s with heap := h, toks := tk })
    (h1 : wpC M A (exec st env) (JoinNext g L m news s) E s) : wpC M A (execs (st :: rest) env) Q E s := by
  refine wpC_execs_cons (wpC_mono h1 (fun f s' z => ?_) fun _ _ e => e)
  obtain ⟨rfl, h, tk, rfl, F', N'⟩ := z
  exact h2 h tk F' N'
theorem no_open {O R : List UInt8} (h1 : O.head? ≠ some 91) (h2 : ∀ c ∈ R.head?, isTx (c.toNat : Int) = false) : (O ++ R).take [(91 : UInt8)].length ≠ [91] := by
  intro e
  cases O with
  | nil =>
    cases R with
    | nil => exact absurd e (by decide)
    | cons c R =>
      have q : c = 91 := by simpa using e
      have := h2 c rfl
      rw [q] at this
      exact absurd this (by decide)
  | cons c O =>
    have q : c = 91 := by simpa using e
    exact h1 (by rw [q]; rfl)
theorem Word.notbye {x : PySem.Str} (h : Word x) : ([Str.ofString "BYE", Str.ofString "PREAUTH"].any fun y => y == upS x) = false := by
  rcases h with rfl | rfl | rfl <;> decide

theorem reg64 : True := by
  k_with "call ref" => (k_here; (with_reducible show wpAny _ _ (call (Value.ref 225) _) _ _ _); k_dflt (refine' c_lower_text ?k1 ?k2 ?k3 ?k4 ?k5 ?kK ?kp ?kd ?ku ?_; (case k1 => k_asm); (case k2 => k_asm); (case k3 => k_asm); (case k4 => k_asm); (case k5 => k_asm); (case kK => first | exact rfl | assumption); (case kp => exact Asc.to (by walk_at "mine:z_asc") (by decide)); (case kd => ktr_room); (case ku => ktr_units); k_whole); intro _ _ _ _ _; (try dsimp only); (try k_fold))
  trivial
theorem c_shere {w : World} {mean : ExcName → Option Value} {mg mb : PySem.Str → Option Value} {dp un : Nat} {gd : Option (List Code)} {cn : PySem.Str} {cs : Scope} {a : Addr} {ccd : Value} {cl : List (PySem.Str × Addr)} {outer : List Env} {A₀ : Around} {base h₀ : Heap} {L : Addr} {m : PySem.Str → Option Value} {s : Shared} {Q E : Value → Shared → Prop} {x dx : Addr} {k1 k2 t1 t2 : Tok} {D R : List UInt8} {i : Int} {rest : List (Addr × Obj)} {O Y : List UInt8} {wd y : PySem.Str} {ty tz : Tok}
    (B : Below A₀ base outer h₀) (F : Fr h₀ L s.heap m) (X : (hd.heap_1 w.params).In h₀) (N : News h₀ L s.heap ((x, instObj 549 dx) :: (dx, wdict w.params k1 k2 D t1 (i) t2 2) :: rest)) (T : Top topProg Lz mean mg mb h₀) (hk : cs.kind = .function) (hp : ((At D i (32 :: (Y ++ (O ++ R))) ∧ @LT.lt Nat instLTNat dx x ∧ ∀ p ∈ rest, p.1 ≠ dx) ∧ Word wd ∧ (Y = [] ∨ ∃ v P, Worth v P ∧ Y = 91 :: (P ++ [93, 32]))) ∧ ((∀ c ∈ O, isTx (c.toNat : Int) = true) ∧ (∀ c ∈ R.head?, isTx (c.toNat : Int) = false) ∧ (O.head? ≠ some 91 ∧ O.getLast? ≠ some 125) ∧ O.length ≤ 1000)) (hdp : dp + 18 < recursionLimit) (hun : un + 144 < cLine)
    (hret : ∀ (ta : Addr) (own : List (Addr × Obj)) (cv : Value) (b1 b2 b3 : Tok), CodeAt cv Y own → (∀ p ∈ (ta, tupO [.str (lowS (upS wd)) b1, .str y b2, cv, .str (txt O) b3]) :: own, p.1 ≠ dx) → ∀ (t2' : Tok) (h' : Heap) (tk' : Nat), Fr h₀ L h' m → News h₀ L h' ((x, instObj 549 dx) :: (dx, wdict w.params k1 k2 D t1 (i + (1 + Y.length + O.length)) t2' 2) :: (((ta, tupO [.str (lowS (upS wd)) b1, .str y b2, cv, .str (txt O) b3]) :: own) ++ rest)) → Q (.ref ta) { s with heap := h', toks := tk' }) :
    wpC (model PySem.Challenge.rw_nz0333_01.row.prog w) (ktrTop dp un gd cn cs L a ccd cl outer) (call (.ref 752) [.ref x, .str y ty, .str (upS wd) tz]) Q E s := by
  obtain ⟨⟨⟨hp, hne, hnr⟩, hw, hY⟩, hO1, hO2, hO3, hO4⟩ := hp
  refine wpC_call ?_
  k_dflt walk_at "mine:cell_enterC"
  with_reducible rename Fr _ _ _ _ => F8
  with_reducible rename News _ _ _ _ => N8
  refine joinS F8 N8 ?_ ?_
  · clear F8 N8
    intro h8 tk8 F8 N8
    refine wpC_execs_cons ?_
    refine wpC_of ?_
    k_steps
    refine wpC_execs_cons ?_
    refine wpC_of ?_
    k_steps
    have hx := hw.asc
    have hO5 : O.length ≤ 1024 := by omega
    rcases hY with rfl | ⟨v, P, hv, rfl⟩
    · have hp1 : At D (i + 1) (O ++ R) := At.step (O := [32]) hp
      have hsk : (O ++ R).take [91].length ≠ [91] := no_open hO3.1 hO2
      have hrt := And.intro (And.intro (And.intro hp1 (And.intro hO1 hO2)) (And.intro hne hnr)) (And.intro hO3 hO5)
      refine wpC_execs_cons ?_
      refine wpC_of ?_
      k_steps
      refine wpC_execs_cons ?_
      refine wpC_of ?_
      k_steps
      with_reducible rename News _ _ _ _ => N5
      rename x < _ ∧ dx < _ ∧ _ => l5
      rw [show i + 1 + (O.length : Int) = i + (1 + (([] : List UInt8).length : Int) + O.length) from by simp; omega] at N5
      exact hret _ [] .none _ _ _ (.inl ⟨rfl, rfl⟩) (fun p hp => by rw [List.mem_singleton.mp hp]; exact Nat.ne_of_gt l5.2.1) _ _ _ (by k_asm) (News.rot N5)
    · have hp1 : At D (i + 1) ([91] ++ (P ++ 93 :: 32 :: (O ++ R))) := by
        have := At.step (O := [32]) hp
        simpa using this
      refine wpC_execs_cons ?_
      refine wpC_If ?_
      refine wpC_of ?_
      k_steps
      refine wpC_execs_cons ?_
      refine wpC_Assign_Name ?_
      refine wpC_List ?_
      refine wpC_args_cons ?_
      refine wpC_MethodCall ?_
      k_steps
      refine wpC_callWith_K0 (K := hd.heap_1 w.params) (by k_in) (by k_is) ?_
      have hp2 : At D (i + 1 + ([91] : List UInt8).length) (P ++ 93 :: (32 :: (O ++ R))) := At.step hp1
      k_dflt (refine' c_rval ?k1 ?k2 ?k3 ?k4 ?k5 ?kK ?kp ?kd ?ku ?_; (case k1 => k_asm); (case k2 => k_asm); (case k3 => k_asm); (case k4 => k_asm); (case k5 => k_asm); (case kK => first | exact rfl | assumption); (case kp => exact ⟨⟨hp2, hne, hnr⟩, v, hv⟩); (case kd => ktr_room); (case ku => ktr_units))
      clear hv
      intro v9 hv9 t9 h9 tk9 F9 N9
      refine wpC_args_nil ?_
      refine wpC_of (new_ls1 (by k_asm) (by k_asm) ?_)
      intro c7 h7 F7 N7 l7
      replace N7 := News.rot N7
      have hc7 : c7 ≠ dx := Nat.ne_of_gt (l7 _ (.tail _ (.head _)))
      have hn7 : ∀ p ∈ (c7, ls1 v9) :: rest, p.1 ≠ dx := List.forall_mem_cons.mpr ⟨hc7, hnr⟩
      have hp3 : At D (i + 1 + ([91] : List UInt8).length + P.length) ([93] ++ 32 :: (O ++ R)) := At.step hp2
      walk_at "mine:c_s"
      with_reducible rename Fr _ _ _ _ => F6
      with_reducible rename News _ _ _ _ => N6
      refine joinA (x := Str.ofString "is_flags") (fun v => v = .bool false) F6 N6 ?_ ?_
      · clear F6 N6
        rintro _ h6 tk6 rfl F6 N6
        have hp4 : At D (i + 1 + ([91] : List UInt8).length + P.length + ([93] : List UInt8).length) (32 :: (O ++ R)) := At.step hp3
        have hp5 : At D (i + 1 + ([91] : List UInt8).length + P.length + ([93] : List UInt8).length + 1) (O ++ R) := At.step (O := [32]) hp4
        have hrt := And.intro (And.intro (And.intro hp5 (And.intro hO1 hO2)) (And.intro hne hn7)) (And.intro hO3 hO5)
        refine wpC_execs_cons ?_
        refine wpC_While (codeC_whileTurn (wpC_of ?_))
        k_steps
        refine wpC_of ?_
        refine wpAny_execs_nil ?_
        walk_at "mine:c_s"
        refine wpC_execs_cons ?_
        refine wpC_of ?_
        k_steps
        with_reducible rename News _ _ _ _ => N5
        rename x < _ ∧ dx < _ ∧ _ => l5
        rw [show i + 1 + (([91] : List UInt8).length : Int) + P.length + (([93] : List UInt8).length : Int) + 1 + O.length = i + (1 + ((91 :: (P ++ [93, 32]) : List UInt8).length : Int) + O.length) from by simp; omega] at N5
        exact hret _ [(c7, ls1 v9)] (.ref c7) _ _ _ (.inr ⟨c7, v9, P, rfl, .head _, rfl, hv9⟩) (fun p hp => by
          rcases List.mem_cons.mp hp with rfl | hp
          · exact Nat.ne_of_gt l5.2.1
          · rw [List.mem_singleton.mp hp]; exact hc7) _ _ _ (by k_asm) (News.rot N5)
      · refine wpC_of ?_
        rcases hv9 with ⟨u9, rfl, rfl⟩ | ⟨u9, rfl, rfl⟩
        all_goals k_steps
        all_goals exact ⟨rfl, _, _, _, rfl, rfl, by k_asm, by walk_at "mine:kn"⟩
  · refine wpC_If ?_
    refine wpC_of ?_
    k_steps
    all_goals first
      | (rw [hw.isin] at *; contradiction)
      | (rw [hw.notbye] at *; contradiction)
      | (refine wpC_of (wpAny_execs_nil ?_); exact ⟨rfl, _, _, rfl, by k_asm, by walk_at "mine:kn"⟩)

theorem Word.off {x : PySem.Str} (h : Word x) {l : List PySem.Str} (ho : (l.any fun y => y == Str.ofString "OK" || y == Str.ofString "NO" || y == Str.ofString "BAD") = false) : (l.any fun y => y == upS x) = false := by
  have e : upS x = Str.ofString "OK" ∨ upS x = Str.ofString "NO" ∨ upS x = Str.ofString "BAD" := by rcases h with rfl | rfl | rfl <;> decide
  rw [List.any_eq_false] at ho ⊢
  intro y hy
  have q := ho y hy
  simp only [Bool.or_eq_true, beq_iff_eq, not_or] at q ⊢
  rcases e with e | e | e <;> rw [e]
  · exact q.1.1
  · exact q.1.2
  · exact q.2
theorem Word.ne {x y : PySem.Str} (h : Word x) (ho : ([y].any fun y => y == Str.ofString "OK" || y == Str.ofString "NO" || y == Str.ofString "BAD") = false) : (upS x == y) = false := by
  have := h.off ho
  rw [Bool.eq_false_iff] at this ⊢
  intro q
  exact this (by rw [List.any_cons, eq_of_beq q]; simp)
/-- a word on the wire -/
abbrev WW (x : PySem.Str) : List UInt8 := octs (upS x)
theorem Word.nam {x : PySem.Str} (h : Word x) : (∀ c ∈ WW x, isNam (c.toNat : Int) = true) ∧ WW x ≠ [] ∧ (∀ c ∈ WW x, c.toNat < 128) ∧ (WW x).length ≤ 1024 := by
  rcases h with rfl | rfl | rfl <;> decide
theorem Word.txt {x : PySem.Str} (h : Word x) : txt (WW x) = upS x := by rcases h with rfl | rfl | rfl <;> decide
theorem Word.upup {x : PySem.Str} (h : Word x) : upS (upS x) = upS x := by rcases h with rfl | rfl | rfl <;> decide
theorem Word.low {x : PySem.Str} (h : Word x) : lowS (upS x) = x := by rcases h with rfl | rfl | rfl <;> decide
theorem Word.fig {x : PySem.Str} (h : Word x) (R : List UInt8) : isFig (peekR (WW x ++ R)) = false := by
  rcases h with rfl | rfl | rfl
  · show isFig ((79 : UInt8).toNat : Int) = false; decide
  · show isFig ((78 : UInt8).toNat : Int) = false; decide
  · show isFig ((66 : UInt8).toNat : Int) = false; decide

theorem c_wword {w : World} {mean : ExcName → Option Value} {mg mb : PySem.Str → Option Value} {dp un : Nat} {gd : Option (List Code)} {cn : PySem.Str} {cs : Scope} {a : Addr} {ccd : Value} {cl : List (PySem.Str × Addr)} {outer : List Env} {A₀ : Around} {base h₀ : Heap} {L : Addr} {m : PySem.Str → Option Value} {s : Shared} {Q E : Value → Shared → Prop} {x dx : Addr} {k1 k2 t1 t2 : Tok} {D R : List UInt8} {i : Int} {rest : List (Addr × Obj)} {wd : PySem.Str}
    (B : Below A₀ base outer h₀) (F : Fr h₀ L s.heap m) (X : (hd.heap_1 w.params).In h₀) (N : News h₀ L s.heap ((x, instObj 549 dx) :: (dx, wdict w.params k1 k2 D t1 (i) t2 2) :: rest)) (T : Top topProg Lz mean mg mb h₀) (hk : cs.kind = .function) (hp : (At D i (WW wd ++ 32 :: R) ∧ @LT.lt Nat instLTNat dx x ∧ ∀ p ∈ rest, p.1 ≠ dx) ∧ Word wd) (hdp : dp + 8 < recursionLimit) (hun : un + 64 < cLine)
    (hret : ∀ (t t2' : Tok) (h' : Heap) (tk' : Nat), Fr h₀ L h' m → News h₀ L h' ((x, instObj 549 dx) :: (dx, wdict w.params k1 k2 D t1 (i + (WW wd).length) t2' 2) :: rest) → Q (.str (upS wd) t) { s with heap := h', toks := tk' }) :
    wpAny (model PySem.Challenge.rw_nz0333_01.row.prog w) (ktrTop dp un gd cn cs L a ccd cl outer) (call (.ref 688) [.ref x]) Q E s := by
  obtain ⟨⟨hp, hne, hnr⟩, hw⟩ := hp
  obtain ⟨h1, h2⟩ := hw.nam
  k_dflt (refine' c_wire_word ?k1 ?k2 ?k3 ?k4 ?k5 ?kK ?kp ?kd ?ku ?_; (case k1 => k_asm); (case k2 => k_asm); (case k3 => k_asm); (case k4 => k_asm); (case k5 => k_asm); (case kK => first | exact rfl | assumption); (case kp => exact ⟨⟨⟨hp, h1, fun c hc => by cases hc; decide⟩, hne, hnr⟩, h2⟩); (case kd => ktr_room); (case ku => ktr_units))
  rw [hw.txt]
  exact hret

theorem c_upup {w : World} {mean : ExcName → Option Value} {mg mb : PySem.Str → Option Value} {dp un : Nat} {gd : Option (List Code)} {cn : PySem.Str} {cs : Scope} {a : Addr} {ccd : Value} {cl : List (PySem.Str × Addr)} {outer : List Env} {A₀ : Around} {base h₀ : Heap} {L : Addr} {m : PySem.Str → Option Value} {s : Shared} {Q E : Value → Shared → Prop} {wd : PySem.Str} {t : Tok} {news : List (Addr × Obj)}
    (B : Below A₀ base outer h₀) (F : Fr h₀ L s.heap m) (X : (hd.heap_1 w.params).In h₀) (N : News h₀ L s.heap news) (T : Top topProg Lz mean mg mb h₀) (hk : cs.kind = .function) (hp : Word wd) (hdp : dp + 1 < recursionLimit) (hun : un + 16 < cLine)
    (hret : ∀ (t' : Tok) (h' : Heap) (tk' : Nat), Fr h₀ L h' m → News h₀ L h' news → Q (.str (upS wd) t') { s with heap := h', toks := tk' }) :
    wpAny (model PySem.Challenge.rw_nz0333_01.row.prog w) (ktrTop dp un gd cn cs L a ccd cl outer) (call (.ref 230) [.str (upS wd) t]) Q E s := by
  k_dflt (refine' c_upper_text ?k1 ?k2 ?k3 ?k4 ?k5 ?kK ?kp ?kd ?ku ?_; (case k1 => k_asm); (case k2 => k_asm); (case k3 => k_asm); (case k4 => k_asm); (case k5 => k_asm); (case kK => first | exact rfl | assumption); (case kp => exact Asc.to hp.asc.up (by decide)); (case kd => ktr_room); (case ku => ktr_units))
  rw [hp.upup]
  exact hret

theorem reg65 : True := by
  k_with "call ref" => (k_here; (with_reducible show wpAny _ _ (call (Value.ref 688) _) _ _ _); k_dflt (refine' c_wword ?k1 ?k2 ?k3 ?k4 ?k5 ?kK ?kp ?kd ?ku ?_; (case k1 => k_asm); (case k2 => k_asm); (case k3 => k_asm); (case k4 => k_asm); (case k5 => k_asm); (case kK => first | exact rfl | assumption); (case kp => with_reducible assumption); (case kd => ktr_room); (case ku => ktr_units); k_whole); intro _ _ _ _ _ _; (try dsimp only); (try k_fold))
  trivial
theorem reg66 : True := by
  k_with "call ref" => (k_here; (with_reducible show wpAny _ _ (call (Value.ref 230) _) _ _ _); k_dflt (refine' c_upup ?k1 ?k2 ?k3 ?k4 ?k5 ?kK ?kp ?kd ?ku ?_; (case k1 => k_asm); (case k2 => k_asm); (case k3 => k_asm); (case k4 => k_asm); (case k5 => k_asm); (case kK => first | exact rfl | assumption); (case kp => with_reducible assumption); (case kd => ktr_room); (case ku => ktr_units); k_whole); intro _ _ _ _ _; (try dsimp only); (try k_fold))
  trivial
theorem c_uhere {w : World} {mean : ExcName → Option Value} {mg mb : PySem.Str → Option Value} {dp un : Nat} {gd : Option (List Code)} {cn : PySem.Str} {cs : Scope} {a : Addr} {ccd : Value} {cl : List (PySem.Str × Addr)} {outer : List Env} {A₀ : Around} {base h₀ : Heap} {L : Addr} {m : PySem.Str → Option Value} {s : Shared} {Q E : Value → Shared → Prop} {x dx : Addr} {k1 k2 t1 t2 : Tok} {D R : List UInt8} {i : Int} {rest : List (Addr × Obj)} {O Y : List UInt8} {wd : PySem.Str}
    (B : Below A₀ base outer h₀) (F : Fr h₀ L s.heap m) (X : (hd.heap_1 w.params).In h₀) (N : News h₀ L s.heap ((x, instObj 549 dx) :: (dx, wdict w.params k1 k2 D t1 (i) t2 2) :: rest)) (T : Top topProg Lz mean mg mb h₀) (hk : cs.kind = .function) (hp : ((At D i (WW wd ++ 32 :: (Y ++ (O ++ R))) ∧ @LT.lt Nat instLTNat dx x ∧ ∀ p ∈ rest, p.1 ≠ dx) ∧ Word wd ∧ (Y = [] ∨ ∃ v P, Worth v P ∧ Y = 91 :: (P ++ [93, 32]))) ∧ ((∀ c ∈ O, isTx (c.toNat : Int) = true) ∧ (∀ c ∈ R.head?, isTx (c.toNat : Int) = false) ∧ (O.head? ≠ some 91 ∧ O.getLast? ≠ some 125) ∧ O.length ≤ 1000)) (hdp : dp + 20 < recursionLimit) (hun : un + 160 < cLine)
    (hret : ∀ (ta : Addr) (own : List (Addr × Obj)) (cv : Value) (b1 b2 b3 : Tok), CodeAt cv Y own → (∀ p ∈ (ta, tupO [.str (lowS (upS wd)) b1, .str (Str.ofString "*") b2, cv, .str (txt O) b3]) :: own, p.1 ≠ dx) → ∀ (t2' : Tok) (h' : Heap) (tk' : Nat), Fr h₀ L h' m → News h₀ L h' ((x, instObj 549 dx) :: (dx, wdict w.params k1 k2 D t1 (i + (WW wd).length + (1 + Y.length + O.length)) t2' 2) :: (((ta, tupO [.str (lowS (upS wd)) b1, .str (Str.ofString "*") b2, cv, .str (txt O) b3]) :: own) ++ rest)) → Q (.ref ta) { s with heap := h', toks := tk' }) :
    wpC (model PySem.Challenge.rw_nz0333_01.row.prog w) (ktrTop dp un gd cn cs L a ccd cl outer) (call (.ref 778) [.ref x]) Q E s := by
  obtain ⟨⟨⟨hp, hne, hnr⟩, hw, hY⟩, hO⟩ := hp
  have hpk := hw.fig (32 :: (Y ++ (O ++ R)))
  have hww := And.intro (And.intro hp (And.intro hne hnr)) hw
  refine wpC_call ?_
  k_dflt walk_at "mine:cell_enterC"
  refine wpC_execs_cons ?_
  refine wpC_If ?_
  refine wpC_of ?_
  k_steps
  walk_at "mine:c_s"
  refine wpC_execs_cons ?_
  refine wpC_of ?_
  k_steps
  have q0 : ([Str.ofString "FLAGS", Str.ofString "STATUS", Str.ofString "LIST", Str.ofString "LSUB"].any fun y => y == upS wd) = false := hw.off (by decide)
  have q1 : ([Str.ofString "SEARCH", Str.ofString "ESEARCH", Str.ofString "SORT", Str.ofString "THREAD"].any fun y => y == upS wd) = false := hw.off (by decide)
  have q2 : ([Str.ofString "CAPABILITY", Str.ofString "ENABLED"].any fun y => y == upS wd) = false := hw.off (by decide)
  have r0 : (upS wd == Str.ofString "VANISHED") = false := hw.ne (by decide)
  have r1 : (upS wd == Str.ofString "ID") = false := hw.ne (by decide)
  have r2 : (upS wd == Str.ofString "NAMESPACE") = false := hw.ne (by decide)
  with_reducible rename Fr _ _ _ _ => F7
  with_reducible rename News _ _ _ _ => N7
  refine joinS F7 N7 ?_ ?_
  rotate_left
  · refine wpC_If ?_
    refine wpC_of ?_
    k_steps
    refine wpC_of ?_
    refine wpAny_execs_nil ?_
    exact ⟨rfl, _, _, rfl, by k_asm, by walk_at "mine:kn"⟩
  clear F7 N7
  intro h7 tk7 F7 N7
  refine joinS F7 N7 ?_ ?_
  rotate_left
  · refine wpC_If ?_
    refine wpC_of ?_
    k_steps
    refine wpC_of ?_
    refine wpAny_execs_nil ?_
    exact ⟨rfl, _, _, rfl, by k_asm, by walk_at "mine:kn"⟩
  clear F7 N7
  intro h7 tk7 F7 N7
  refine joinS F7 N7 ?_ ?_
  rotate_left
  · refine wpC_If ?_
    refine wpC_of ?_
    k_steps
    refine wpC_of ?_
    refine wpAny_execs_nil ?_
    exact ⟨rfl, _, _, rfl, by k_asm, by walk_at "mine:kn"⟩
  clear F7 N7
  intro h7 tk7 F7 N7
  refine joinS F7 N7 ?_ ?_
  rotate_left
  · refine wpC_If ?_
    refine wpC_of ?_
    k_steps
    refine wpC_of ?_
    refine wpAny_execs_nil ?_
    exact ⟨rfl, _, _, rfl, by k_asm, by walk_at "mine:kn"⟩
  clear F7 N7
  intro h7 tk7 F7 N7
  refine joinS F7 N7 ?_ ?_
  rotate_left
  · refine wpC_If ?_
    refine wpC_of ?_
    k_steps
    refine wpC_of ?_
    refine wpAny_execs_nil ?_
    exact ⟨rfl, _, _, rfl, by k_asm, by walk_at "mine:kn"⟩
  clear F7 N7
  intro h7 tk7 F7 N7
  refine joinS F7 N7 ?_ ?_
  rotate_left
  · refine wpC_If ?_
    refine wpC_of ?_
    k_steps
    refine wpC_of ?_
    refine wpAny_execs_nil ?_
    exact ⟨rfl, _, _, rfl, by k_asm, by walk_at "mine:kn"⟩
  clear F7 N7
  intro h7 tk7 F7 N7
  refine wpC_execs_cons ?_
  refine wpC_Return ?_
  refine wpC_Call ?_
  k_steps
  with_reducible rename News _ _ _ _ => N9
  have hp1 : At D (i + (WW wd).length) (32 :: (Y ++ (O ++ R))) := At.step hp
  refine wpC_callWith_K (K := hd.heap_1 w.params) (by k_is) ?_
  refine wpC_args_cons ?_
  refine wpC_of ?_
  k_steps
  refine wpC_args_cons ?_
  refine wpC_of ?_
  k_steps
  refine wpC_args_cons ?_
  refine wpC_of ?_
  k_steps
  refine wpC_args_nil ⟨by k_in, ?_⟩
  k_dflt (refine' c_shere (O := O) (Y := Y) (R := R) ?k1 ?k2 ?k3 ?k4 ?k5 ?kK ?kp ?kd ?ku ?_; (case k1 => k_asm); (case k2 => k_asm); (case k3 => k_asm); (case k4 => k_asm); (case k5 => k_asm); (case kK => first | exact rfl | assumption); (case kp => exact ⟨⟨⟨hp1, hne, hnr⟩, hw, hY⟩, hO⟩); (case kd => ktr_room); (case ku => ktr_units))
  intro ta own cv b1 b2 b3 hc ho t8 h8 tk8 F8 N8
  k_steps
  exact hret _ _ _ _ _ _ hc ho _ _ _ (by k_asm) (by k_asm)

/-- a text that the reader takes as it is -/
def Txt1 (O : List UInt8) : Prop := (∀ c ∈ O, isTx (c.toNat : Int) = true) ∧ (O.head? ≠ some 91 ∧ O.getLast? ≠ some 125) ∧ O.length ≤ 1000
theorem At.zero {D : List UInt8} (h : D.length ≤ 1048576) : At D 0 D := ⟨by omega, by omega, rfl, h⟩
theorem News.rot2 {h₀ h : Heap} {L dx : Addr} {o : Obj} {p q : Addr × Obj} {news : List (Addr × Obj)} (N : News h₀ L h (p :: q :: (dx, o) :: news)) (hp : @LT.lt Nat instLTNat dx p.1) (hr : ∀ z ∈ news, z.1 ≠ dx) : News h₀ L h (q :: (dx, o) :: p :: news) ∧ ∀ z ∈ p :: news, z.1 ≠ dx :=
  ⟨News.rot N, List.forall_mem_cons.mpr ⟨Nat.ne_of_gt hp, hr⟩⟩
theorem crlf_tx : ∀ c ∈ ([13, 10] : List UInt8).head?, isTx (c.toNat : Int) = false := fun c hc => by cases hc; decide

theorem c_mkwire {w : World} {mean : ExcName → Option Value} {mg mb : PySem.Str → Option Value} {dp un : Nat} {gd : Option (List Code)} {cn : PySem.Str} {cs : Scope} {a : Addr} {ccd : Value} {cl : List (PySem.Str × Addr)} {outer : List Env} {A₀ : Around} {base h₀ : Heap} {L : Addr} {m : PySem.Str → Option Value} {s : Shared} {Q E : Value → Shared → Prop} {D : List UInt8} {t1 : Tok} {news : List (Addr × Obj)}
    (B : Below A₀ base outer h₀) (F : Fr h₀ L s.heap m) (X : (hd.heap_1 w.params).In h₀) (N : News h₀ L s.heap news) (T : Top topProg Lz mean mg mb h₀) (hk : cs.kind = .function) (hp : True) (hdp : dp + 2 < recursionLimit) (hun : un + 24 < cLine)
    (hret : ∀ (x dx : Addr) (k1 k2 t2 : Tok), @LT.lt Nat instLTNat dx x → (∀ p ∈ news, @LT.lt Nat instLTNat p.1 dx) → ∀  (h' : Heap) (tk' : Nat), Fr h₀ L h' m → News h₀ L h' ((x, instObj 549 dx) :: (dx, wdict w.params k1 k2 D t1 0 t2 2) :: news) → Q (.ref x) { s with heap := h', toks := tk' }) :
    wpAny (model PySem.Challenge.rw_nz0333_01.row.prog w) (ktrTop dp un gd cn cs L a ccd cl outer) (call (.ref 549) [.bytes D.toArray t1]) Q E s := by
  k_dflt (refine' call_cls ?k1 ?k2 ?k3 ?k4 ?k5 ?k6 ?_; (case k1 => k_asm); (case k2 => k_asm); (case k3 => k_asm); (case k4 => k_is); (case k5 => k_is); (case k6 => k_is); k_whole)
  intro x9 d9 h9 F9 N9 l1 l2
  have hnr : ∀ p ∈ news, p.1 ≠ d9 := fun p hp => Nat.ne_of_lt (l1 p hp)
  have hne : @LT.lt Nat instLTNat d9 x9 := l2
  k_dflt walk_at "mine:cell_in"
  k_steps
  exact hret _ _ _ _ _ hne l1 _ _ (by k_asm) (by k_asm)

theorem reg67 : True := by
  k_with "call ref" => (k_here; (with_reducible show wpAny _ _ (call (Value.ref 421) _) _ _ _); k_dflt (refine' c_done (R := []) ?k1 ?k2 ?k3 ?k4 ?k5 ?kK ?kp ?kd ?ku ?_; (case k1 => k_asm); (case k2 => k_asm); (case k3 => k_asm); (case k4 => k_asm); (case k5 => k_asm); (case kK => first | exact rfl | assumption); (case kp => exact ⟨by assumption, by omega, by assumption⟩); (case kd => ktr_room); (case ku => ktr_units); k_whole); intro _ _ _ _; (try dsimp only); (try k_fold))
  trivial
theorem c_rgo {w : World} {mean : ExcName → Option Value} {mg mb : PySem.Str → Option Value} {dp un : Nat} {gd : Option (List Code)} {cn : PySem.Str} {cs : Scope} {a : Addr} {ccd : Value} {cl : List (PySem.Str × Addr)} {outer : List Env} {A₀ : Around} {base h₀ : Heap} {L : Addr} {m : PySem.Str → Option Value} {s : Shared} {Q E : Value → Shared → Prop} {D O : List UInt8} {t : Tok} {news : List (Addr × Obj)}
    (B : Below A₀ base outer h₀) (F : Fr h₀ L s.heap m) (X : (hd.heap_1 w.params).In h₀) (N : News h₀ L s.heap news) (T : Top topProg Lz mean mg mb h₀) (hk : cs.kind = .function) (hp : D = [43, 32] ++ (O ++ [13, 10]) ∧ Txt1 O) (hdp : dp + 12 < recursionLimit) (hun : un + 112 < cLine)
    (hret : ∀ (ta : Addr) (b1 b2 : Tok) (h' : Heap) (tk' : Nat), Fr h₀ L h' m → News h₀ L h' ((ta, tupO [.str (Str.ofString "go on") b1, .str (txt O) b2]) :: news) → Q (.ref ta) { s with heap := h', toks := tk' }) :
    wpC (model PySem.Challenge.rw_nz0333_01.row.prog w) (ktrTop dp un gd cn cs L a ccd cl outer) (call (.ref 785) [.bytes D.toArray t]) Q E s := by
  obtain ⟨hD, hO1, hO2, hO3⟩ := hp
  have hl : D.length ≤ 1048576 := by rw [hD]; simp; omega
  have hO5 : O.length ≤ 1024 := by omega
  have hp0 : At D 0 ([43, 32] ++ (O ++ [13, 10])) := hD ▸ At.zero hl
  have hp1 : At D (0 + ([43, 32] : List UInt8).length) (O ++ [13, 10]) := At.step hp0
  have hp2 : At D (0 + ([43, 32] : List UInt8).length + O.length) ([13, 10] ++ []) := At.step hp1
  have hp3 : At D (0 + ([43, 32] : List UInt8).length + O.length + ([13, 10] : List UInt8).length) [] := At.step hp2
  refine wpC_call ?_
  k_dflt walk_at "mine:cell_enterC"
  refine wpC_execs_cons ?_
  refine wpC_of ?_
  k_steps
  k_dflt (refine' c_mkwire ?k1 ?k2 ?k3 ?k4 ?k5 ?kK ?kp ?kd ?ku ?_; (case k1 => k_asm); (case k2 => k_asm); (case k3 => k_asm); (case k4 => k_asm); (case k5 => k_asm); (case kK => first | exact rfl | assumption); (case kp => trivial); (case kd => ktr_room); (case ku => ktr_units))
  intro x9 d9 k1 k2 t2 hne l9 h9 tk9 F9 N9
  have hnr : ∀ p ∈ news, p.1 ≠ d9 := fun p hp => Nat.ne_of_lt (l9 p hp)
  have hrt := And.intro (And.intro (And.intro hp1 (And.intro hO1 crlf_tx)) (And.intro hne hnr)) (And.intro hO2 hO5)
  k_steps
  refine wpC_execs_cons ?_
  refine wpC_of ?_
  k_steps
  dsimp only
  with_reducible rename News _ _ _ _ => N9
  rename x9 < _ ∧ d9 < _ ∧ _ => l5
  obtain ⟨N8, hn5⟩ := News.rot2 N9 l5.2.1 hnr
  clear N9
  refine wpC_of ?_
  k_steps
  exact hret _ _ _ _ _ (by k_asm) (by walk_at "mine:kn")

theorem c_rstar {w : World} {mean : ExcName → Option Value} {mg mb : PySem.Str → Option Value} {dp un : Nat} {gd : Option (List Code)} {cn : PySem.Str} {cs : Scope} {a : Addr} {ccd : Value} {cl : List (PySem.Str × Addr)} {outer : List Env} {A₀ : Around} {base h₀ : Heap} {L : Addr} {m : PySem.Str → Option Value} {s : Shared} {Q E : Value → Shared → Prop} {D O Y : List UInt8} {wd : PySem.Str} {t : Tok} {news : List (Addr × Obj)}
    (B : Below A₀ base outer h₀) (F : Fr h₀ L s.heap m) (X : (hd.heap_1 w.params).In h₀) (N : News h₀ L s.heap news) (T : Top topProg Lz mean mg mb h₀) (hk : cs.kind = .function) (hp : D = [42, 32] ++ (WW wd ++ 32 :: (Y ++ (O ++ [13, 10]))) ∧ Txt1 O ∧ Word wd ∧ LB 8 Y ∧ (Y = [] ∨ ∃ v P, Worth v P ∧ Y = 91 :: (P ++ [93, 32]))) (hdp : dp + 22 < recursionLimit) (hun : un + 200 < cLine)
    (hret : ∀ (ta : Addr) (own : List (Addr × Obj)) (cv : Value) (b1 b2 b3 : Tok), CodeAt cv Y own → ∀  (h' : Heap) (tk' : Nat), Fr h₀ L h' m → News h₀ L h' ((ta, tupO [.str (lowS (upS wd)) b1, .str (Str.ofString "*") b2, cv, .str (txt O) b3]) :: (own ++ news)) → Q (.ref ta) { s with heap := h', toks := tk' }) :
    wpC (model PySem.Challenge.rw_nz0333_01.row.prog w) (ktrTop dp un gd cn cs L a ccd cl outer) (call (.ref 785) [.bytes D.toArray t]) Q E s := by
  obtain ⟨hD, ⟨hO1, hO2, hO3⟩, hw, hY8, hY⟩ := hp
  have hww := hw.nam.2.2.2
  have hY9 : Y.length ≤ 8 := hY8
  have hl : D.length ≤ 1048576 := by rw [hD]; simp only [List.length_append, List.length_cons, List.length_nil]; omega
  have hSH := And.intro hO1 (And.intro crlf_tx (And.intro hO2 hO3))
  have hpD : At D 0 ([42, 32] ++ (WW wd ++ 32 :: (Y ++ (O ++ [13, 10])))) := hD ▸ At.zero hl
  refine wpC_call ?_
  k_dflt walk_at "mine:cell_enterC"
  refine wpC_execs_cons ?_
  refine wpC_of ?_
  k_steps
  k_dflt (refine' c_mkwire ?k1 ?k2 ?k3 ?k4 ?k5 ?kK ?kp ?kd ?ku ?_; (case k1 => k_asm); (case k2 => k_asm); (case k3 => k_asm); (case k4 => k_asm); (case k5 => k_asm); (case kK => first | exact rfl | assumption); (case kp => trivial); (case kd => ktr_room); (case ku => ktr_units))
  intro x9 d9 k1 k2 t2 hne l9 h9 tk9 F9 N9
  have hnr : ∀ p ∈ news, p.1 ≠ d9 := fun p hp => Nat.ne_of_lt (l9 p hp)
  k_steps
  have hp1 : At D (0 + ([42, 32] : List UInt8).length) (WW wd ++ 32 :: (Y ++ (O ++ [13, 10]))) := At.step hpD
  have hp2 : At D (0 + ([42, 32] : List UInt8).length + (WW wd).length + (1 + Y.length + O.length)) ([13, 10] ++ []) := by
    have := At.step (O := WW wd ++ 32 :: (Y ++ O)) (R := [13, 10]) (D := D) (i := 0 + ([42, 32] : List UInt8).length) (by simpa using hp1)
    rw [show (0 + (([42, 32] : List UInt8).length : Int) + ((WW wd ++ 32 :: (Y ++ O)).length : Int)) = 0 + (([42, 32] : List UInt8).length : Int) + ((WW wd).length : Int) + (1 + (Y.length : Int) + (O.length : Int)) from by simp; omega] at this
    simpa using this
  have hp3 := At.step hp2
  refine wpC_execs_cons ?_
  refine wpC_If ?_
  refine wpC_of ?_
  k_steps
  refine wpC_execs_cons ?_
  refine wpC_If ?_
  refine wpC_of ?_
  k_steps
  refine wpC_execs_cons ?_
  refine wpC_Assign_Name ?_
  refine wpC_Call ?_
  k_steps
  refine wpC_callWith_K (K := hd.heap_1 w.params) (by k_is) ?_
  refine wpC_args_cons ?_
  refine wpC_of ?_
  k_steps
  refine wpC_args_nil ⟨by k_in, ?_⟩
  k_dflt (refine' c_uhere (O := O) (Y := Y) (R := [13, 10]) ?k1 ?k2 ?k3 ?k4 ?k5 ?kK ?kp ?kd ?ku ?_; (case k1 => k_asm); (case k2 => k_asm); (case k3 => k_asm); (case k4 => k_asm); (case k5 => k_asm); (case kK => first | exact rfl | assumption); (case kp => exact ⟨⟨⟨hp1, hne, hnr⟩, hw, hY⟩, hSH⟩); (case kd => ktr_room); (case ku => ktr_units))
  intro ta own cv b1 b2 b3 hc ho t8 h8 tk8 F8 N8
  have hn5 := List.forall_mem_append.mpr (And.intro ho hnr)
  walk_at "mine:c_s"
  walk_at "mine:c_s"
  iterate 3 (try (dsimp only; walk_at "mine:c_s"))
  with_reducible rename News _ _ _ _ => N5
  exact hret _ _ _ _ _ _ hc _ _ (by k_asm) (News.tl (News.tl N5))


theorem c_rtag {w : World} {mean : ExcName → Option Value} {mg mb : PySem.Str → Option Value} {dp un : Nat} {gd : Option (List Code)} {cn : PySem.Str} {cs : Scope} {a : Addr} {ccd : Value} {cl : List (PySem.Str × Addr)} {outer : List Env} {A₀ : Around} {base h₀ : Heap} {L : Addr} {m : PySem.Str → Option Value} {s : Shared} {Q E : Value → Shared → Prop} {D O Y : List UInt8} {wd : PySem.Str} {t : Tok} {news : List (Addr × Obj)}
    (B : Below A₀ base outer h₀) (F : Fr h₀ L s.heap m) (X : (hd.heap_1 w.params).In h₀) (N : News h₀ L s.heap news) (T : Top topProg Lz mean mg mb h₀) (hk : cs.kind = .function) (hp : D = [116, 49] ++ [32] ++ (WW wd ++ 32 :: (Y ++ (O ++ [13, 10]))) ∧ Txt1 O ∧ Word wd ∧ LB 8 Y ∧ (Y = [] ∨ ∃ v P, Worth v P ∧ Y = 91 :: (P ++ [93, 32]))) (hdp : dp + 22 < recursionLimit) (hun : un + 200 < cLine)
    (hret : ∀ (ta : Addr) (own : List (Addr × Obj)) (cv : Value) (b1 b2 b3 : Tok), CodeAt cv Y own → ∀  (h' : Heap) (tk' : Nat), Fr h₀ L h' m → News h₀ L h' ((ta, tupO [.str (lowS (upS wd)) b1, .str (txt [116, 49]) b2, cv, .str (txt O) b3]) :: (own ++ news)) → Q (.ref ta) { s with heap := h', toks := tk' }) :
    wpC (model PySem.Challenge.rw_nz0333_01.row.prog w) (ktrTop dp un gd cn cs L a ccd cl outer) (call (.ref 785) [.bytes D.toArray t]) Q E s := by
  obtain ⟨hD, ⟨hO1, hO2, hO3⟩, hw, hY8, hY⟩ := hp
  have hww := hw.nam.2.2.2
  have hY9 : Y.length ≤ 8 := hY8
  have hl : D.length ≤ 1048576 := by rw [hD]; simp only [List.length_append, List.length_cons, List.length_nil]; omega
  have hSH := And.intro hO1 (And.intro crlf_tx (And.intro hO2 hO3))
  have hpD : At D 0 ([116, 49] ++ [32] ++ (WW wd ++ 32 :: (Y ++ (O ++ [13, 10])))) := hD ▸ At.zero hl
  refine wpC_call ?_
  k_dflt walk_at "mine:cell_enterC"
  refine wpC_execs_cons ?_
  refine wpC_of ?_
  k_steps
  k_dflt (refine' c_mkwire ?k1 ?k2 ?k3 ?k4 ?k5 ?kK ?kp ?kd ?ku ?_; (case k1 => k_asm); (case k2 => k_asm); (case k3 => k_asm); (case k4 => k_asm); (case k5 => k_asm); (case kK => first | exact rfl | assumption); (case kp => trivial); (case kd => ktr_room); (case ku => ktr_units))
  intro x9 d9 k1 k2 t2 hne l9 h9 tk9 F9 N9
  have hnr : ∀ p ∈ news, p.1 ≠ d9 := fun p hp => Nat.ne_of_lt (l9 p hp)
  k_steps
  have hpT : ((At D 0 ([116, 49] ++ 32 :: (WW wd ++ 32 :: (Y ++ (O ++ [13, 10])))) ∧ (∀ c ∈ [116, 49], isTag ((c : UInt8).toNat : Int) = true) ∧ ∀ c ∈ (32 :: (WW wd ++ 32 :: (Y ++ (O ++ [13, 10])))).head?, isTag ((c : UInt8).toNat : Int) = false) ∧ (@LT.lt Nat instLTNat d9 x9 ∧ ∀ p ∈ news, p.1 ≠ d9)) ∧ ([116, 49] : List UInt8) ≠ [] ∧ (∀ c ∈ ([116, 49] : List UInt8), c.toNat < 128) ∧ ([116, 49] : List UInt8).length ≤ 1024 := ⟨⟨⟨hpD, by decide, fun c hc => by cases hc; decide⟩, hne, hnr⟩, by decide, by decide, by decide⟩
  have hpB : At D (0 + ([116, 49] : List UInt8).length) (32 :: (WW wd ++ 32 :: (Y ++ (O ++ [13, 10])))) := At.step hpT.1.1.1
  have hp1 : At D (0 + ([116, 49] : List UInt8).length + 1) (WW wd ++ 32 :: (Y ++ (O ++ [13, 10]))) := At.step (O := [32]) hpB
  have hp2 : At D (0 + ([116, 49] : List UInt8).length + 1 + (WW wd).length) (32 :: (Y ++ (O ++ [13, 10]))) := At.step hp1
  have hp4 : At D (0 + ([116, 49] : List UInt8).length + 1 + (WW wd).length + (1 + Y.length + O.length)) ([13, 10] ++ []) := by
    have := At.step (O := 32 :: (Y ++ O)) (R := [13, 10]) (D := D) (i := 0 + ([116, 49] : List UInt8).length + 1 + (WW wd).length) (by simpa using hp2)
    rw [show (0 + (([116, 49] : List UInt8).length : Int) + 1 + ((WW wd).length : Int) + ((32 :: (Y ++ O)).length : Int)) = 0 + (([116, 49] : List UInt8).length : Int) + 1 + ((WW wd).length : Int) + (1 + (Y.length : Int) + (O.length : Int)) from by simp; omega] at this
    simpa using this
  have hp5 := At.step hp4
  have hww := And.intro (And.intro hp1 (And.intro hne hnr)) hw
  refine wpC_execs_cons ?_
  refine wpC_If ?_
  refine wpC_of ?_
  k_steps
  refine wpC_execs_cons ?_
  refine wpC_If ?_
  refine wpC_of ?_
  k_steps
  refine wpC_execs_cons ?_
  refine wpC_of ?_
  k_steps
  refine wpC_execs_cons ?_
  refine wpC_of ?_
  k_steps
  refine wpC_execs_cons ?_
  refine wpC_Assign_Name ?_
  refine wpC_Call ?_
  k_steps
  refine wpC_callWith_K (K := hd.heap_1 w.params) (by k_is) ?_
  refine wpC_args_cons ?_
  refine wpC_of ?_
  k_steps
  refine wpC_args_cons ?_
  refine wpC_of ?_
  k_steps
  refine wpC_args_cons ?_
  refine wpC_of ?_
  k_steps
  refine wpC_args_nil ⟨by k_in, ?_⟩
  k_dflt (refine' c_shere (O := O) (Y := Y) (R := [13, 10]) ?k1 ?k2 ?k3 ?k4 ?k5 ?kK ?kp ?kd ?ku ?_; (case k1 => k_asm); (case k2 => k_asm); (case k3 => k_asm); (case k4 => k_asm); (case k5 => k_asm); (case kK => first | exact rfl | assumption); (case kp => exact ⟨⟨⟨hp2, hne, hnr⟩, hw, hY⟩, hSH⟩); (case kd => ktr_room); (case ku => ktr_units))
  intro ta own cv b1 b2 b3 hc ho t8 h8 tk8 F8 N8
  have hn5 := List.forall_mem_append.mpr (And.intro ho hnr)
  walk_at "mine:c_s"
  walk_at "mine:c_s"
  iterate 3 (try (dsimp only; walk_at "mine:c_s"))
  with_reducible rename News _ _ _ _ => N5
  exact hret _ _ _ _ _ _ hc _ _ (by k_asm) (News.tl (News.tl N5))


theorem codeC_cellsN {prog : Program} {w : World} {A : Around} {R : Result → Shared → Prop} {s : Shared} {name : PySem.Str} {params : Arguments} {body : List Stmt} {scope : Scope}
    {pm cd doc : Value} {a : Addr} {o : Obj} {args : List Value} {binds : List (PySem.Str × Value)}
    (hroom : A.depth < recursionLimit) (ho : s.heap.get? a = some o) (hdata : o.data = .func (Calls.docDef name params body scope pm cd doc)) (hlim : s.heap.NoLimit) (hcd : s.heap.CodeRec cd name)
    (hbind : bindArgs (Calls.docDef name params body scope pm cd doc) ⟨args, []⟩ = pure binds)
    (hkind : ∀ x ∈ binds, scope.names.lookup x.1 = some .local ∨ (scope.names.lookup x.1 = some .cell ∧ ((cellsFrom (s.heap.objs.size + 1) scope.names []).lookup x.1).isSome = true))
    (hnd : ((cellsFrom 0 scope.names []).map (·.1)).Nodup)
    (h : ∀ h₁ tk cells, Fr s.heap s.heap.objs.size h₁ (bindL (envOfC name scope s.heap.objs.size a cd).kindOf binds fun _ => none) → News s.heap s.heap.objs.size h₁ cells →
      CellsAre (bindC (envOfC name scope s.heap.objs.size a cd).kindOf binds fun _ => none) (cellsFrom (s.heap.objs.size + 1) scope.names []) cells →
      wpC (model prog w) (A.deeper (envOfC name scope s.heap.objs.size a cd)) (execs body (envOfC name scope s.heap.objs.size a cd))
        (fun f s' => R (.ok (.ret (match f with | .ret v => v | _ => .none))) s')
        (fun e s' => wpAny (model prog w) (A.deeper (envOfC name scope s.heap.objs.size a cd)) (leaving (envOfC name scope s.heap.objs.size a cd) e)
          (fun _ s'' => R (.error e) s'') (fun e' s'' => R (.error e') s'') s')
        { s with heap := h₁, toks := tk })
    (hco : scope.isCoroutine = false := by rfl) (hgen : scope.isGenerator = false := by rfl) (hk : scope.kind = .function := by rfl) :
    codeC (model prog w) A (.call (.ref a) ⟨args, []⟩) R s := by
  refine codeC_call_function (fd := Calls.docDef name params body scope pm cd doc) (body := body) hroom ho hdata hco hgen rfl hcd ?_
  rw [hbind]
  refine wpAny_pure ?_
  refine wpAny_newFunctionEnv_cells hk hkind fun env' he s' x => ?_
  subst he
  refine ⟨hlim.keeps x.toInCall.keep, codeC_func ?_⟩
  obtain ⟨h₁, tk, rfl, _⟩ := x.done
  have hk₁ := x.toInCall.keep
  obtain ⟨cells, NC, Y⟩ := Cl.news (h₀ := s.heap) (Nat.le_refl _) fun n c hm => ⟨x.cell n c (lookup_of_mem_nodup (cellsFrom_names scope.names 0 (s.heap.objs.size + 1) [] [] rfl ▸ hnd) hm), x.above n c hm⟩
  exact h h₁ tk cells ⟨x.toInCall.ns, fun b o e => hk₁ b o e, Nat.le_refl _⟩ NC Y

section
variable {prog : Program} {w : World} {A : Around} {E : Value → Shared → Prop} {s : Shared} {h₀ : Heap} {L : Addr} {m : PySem.Str → Option Value} {env : Env}
theorem News.draw {h₀ h : Heap} {L : Addr} {p q r u v x : Addr × Obj} (N : News h₀ L h [p, q, r, u, v, x]) : News h₀ L h [u, v, p, q, r, x] := fun z hz => N z (by
  simp only [List.mem_cons, List.not_mem_nil, or_false] at hz ⊢
  rcases hz with h | h | h | h | h | h <;> simp [h])
theorem drawV_nat (ns : List Int) (k : Int) {limit : Int} (h : 0 < limit) : ∃ n : Nat, (n : Int) < limit ∧ drawV ns k limit = (n : Int) := by
  unfold drawV
  generalize ns.getD (Int.fmod k (ns.length : Int)).toNat 0 + 11 * Int.fdiv k (ns.length : Int) = z
  have h1 := Int.fmod_nonneg_of_pos z h
  have h2 := Int.fmod_lt_of_pos z h
  obtain ⟨n, hn⟩ := Int.eq_ofNat_of_zero_le h1
  exact ⟨n, by omega, hn⟩
/-- a text of one sign -/
def Sign (y : Value) : Prop := ∃ c u, y = .str ⟨#[c]⟩ u
/-- the end of a turn that draws -/
def DrawEnd (h₀ : Heap) (L : Addr) (m : PySem.Str → Option Value) (s : Shared) (led : Int → Tok → List (Addr × Obj)) (k : Int) (front : List (Addr × Obj)) (y : Value) (s₂ : Shared) : Prop :=
  Sign y ∧ ∃ h' tk' t' all, s₂ = { s with heap := h', toks := tk' } ∧ Fr h₀ L h' m ∧ News h₀ L h' all ∧ ∀ p ∈ front ++ led k t', p ∈ all
theorem rest_led {elt : PySem.Expr} {x : PySem.Str} {scope : Scope} {cl : List (PySem.Str × Addr)} {P : Nat → Value → Prop} {Fin : List Value → List (Addr × Obj) → Prop} {n : Nat} (led : Int → Tok → List (Addr × Obj)) (k0 : Int)
    (hoff : ∀ k t k' t' I C D, LCg.Off3 I C D (led k t) → LCg.Off3 I C D (led k' t'))
    (turn : ∀ (j : Nat) t ys I oI C oC D m₂ h tk E', j < n → LCg.NsObj oC m₂ → Fr h₀ L h m → News h₀ L h ((I, oI) :: (C, oC) :: (D, LCg.lst ys) :: led (k0 + j) t) → LCg.Off3 I C D (led (k0 + j) t) →
      wpAny (model prog w) A (eval elt (compEnvC scope cl C env)) (DrawEnd h₀ L m { s with heap := h, toks := tk } led (k0 + j + 1) [(I, oI), (C, oC), (D, LCg.lst ys)]) E' { s with heap := h, toks := tk })
    (fin : ∀ ys t, ys.length = n → (∀ y ∈ ys, Sign y) → Fin ys (led (k0 + n) t)) :
    ∀ k i ys t, i + k = n → ys.length = i → (∀ y ∈ ys, Sign y) → LCg.CompRest prog w A h₀ L m env elt x scope cl s (fun _ => True) P Fin k i ys (led (k0 + i) t)
  | 0, i, ys, t, hi, hl, hR => by
    obtain rfl : i = n := hi
    exact LCg.CompRest.zero (fin ys t hl hR)
  | k + 1, i, ys, t, hi, hl, hR => by
    refine LCg.CompRest.succ fun v I oI C oC D m₂ h tk E' hP hC hx F N off ne => ?_
    refine wpAny_mono (turn i t ys I oI C oC D m₂ h tk E' (by omega) hC F N off) (fun y s₂ hq => ?_) fun _ _ e => e
    obtain ⟨hy, h', tk', t', all, rfl, F', N', hs⟩ := hq
    refine LCg.CompEnd.intro (s₁ := { s with heap := h, toks := tk }) F' N' (led (k0 + i + 1) t') hs (hoff _ _ _ _ _ _ _ off) trivial ?_
    rw [show k0 + (i : Int) + 1 = k0 + ((i + 1 : Nat) : Int) from by omega]
    exact rest_led led k0 hoff turn fin k (i + 1) (ys ++ [y]) t' (by omega) (by rw [List.length_append, hl]; rfl) fun z hz => by
      rcases List.mem_append.mp hz with hz | hz
      · exact hR z hz
      · rw [List.mem_singleton.mp hz]; exact hy
end

section
variable {A : Around} {s : Shared}
theorem eqAt_bytes (b : Array UInt8) (t u : Tok) : SeqAt.EqAt A s (.bytes b t) (.bytes b u) true := fun prog w E Q hq => by
  unfold eqBool
  refine wpAny_holding ?_
  refine wpAny_ite_split (fun _ => wpAny_bind (wpAny_rule (wpAny_pure hq))) (fun _ => ?_)
  refine wpAny_bind (PySem.W.eq_bytes ?_)
  rw [beq_self_eq_true]
  exact wpAny_truthy_bool hq
theorem by_declines (b : Array UInt8) (t : Tok) (n : Int) (u : Tok) : Gives (Builtin.«bytes.__eq__» ⟨[.bytes b t, .int n u], []⟩) (.val (Value.notImplemented)) := by
  refine .of_wp fun M A E s Q hq => ?_
  show wpAny M A (isInstance (.int n u) (.type "bytes") >>= fun r => _) _ E s
  refine wpAny_bind ?_
  refine wpAny_isInstance (T := "int") (b := false) (typeIs_int _ _ _) sub_int_bytes ?_
  show wpAny M A (rule _ >>= fun _ => ret Value.notImplemented) _ E s
  exact wpAny_bind (wpAny_rule (wpAny_pure ⟨_, rfl, hq⟩))
theorem int_declines (b : Array UInt8) (t : Tok) (n : Int) (u : Tok) : Gives (Builtin.«int.__eq__» ⟨[.int n u, .bytes b t], []⟩) (.val (Value.notImplemented)) :=
  .of_wp fun M A E s Q h => by obtain ⟨hp, g, d, tk, os⟩ := s; wp_walk; exact ⟨_, rfl, h⟩
theorem by_eq_refl : Slot "bytes" (cmpInfo .Eq).2.2 "bytes.__eq__" := FB.slot_bytes_eq
theorem eqAt_bytes_int (b : Array UInt8) (t : Tok) (n : Int) (u : Tok) : SeqAt.EqAt A s (.bytes b t) (.int n u) false := fun prog w E Q h => by
  unfold eqBool
  refine wpAny_holding ?_
  refine wpAny_ite_split (fun hab => absurd (eq_of_beq hab) nofun) (fun _ => ?_)
  refine wpAny_bind (SeqAt.rc_eq_decline_or (k := false) (typeIs_bytes s b t) (typeIs_int s n u) (by decide) sub_int_bytes FB.slot_bytes_eq F.slot_int_eq_refl
    (fun _ hq => call_gives FB.slot_bytes_eq (typeIs_bytes s b t) FB.entry_bytes_eq (FB.args_bytes_eq_2 _ _) (by_declines b t n u) hq)
    (fun _ hq => call_gives F.slot_int_eq_refl (typeIs_int s n u) F.entry_int_eq (F.args_int_eq_2 _ _) (int_declines b t n u) hq)
    (fun _ hq => wpAny_of_eq (rfl : isSame (.bytes b t) (.int n u) = pure false) hq) (.inl rfl) (wpAny_truthy_bool h))
end
section
variable {prog : Program} {w : World} {A : Around} {E : Value → Shared → Prop} {s : Shared} {h₀ : Heap} {L : Addr} {news : List (Addr × Obj)}
theorem isTup {ta : Addr} {vs : List Value} (N : News h₀ L s.heap news) (h : (ta, tupO vs) ∈ news) : s.heap.IsTuple ta vs.toArray := ⟨_, (N _ h).1, rfl, _, rfl⟩
theorem isLs1 {ta : Addr} {v : Value} (N : News h₀ L s.heap news) (h : (ta, ls1 v) ∈ news) : s.heap.IsList ta [v].toArray := ⟨_, (N _ h).1, rfl, _, rfl⟩
/-- two tuples with equal items -/
theorem ne_tup {ta tb : Addr} {xs ys : List Value} {Q : Value → Shared → Prop} (N : News h₀ L s.heap news) (ha : (ta, tupO xs) ∈ news) (hb : (tb, tupO ys) ∈ news) (hl : xs.length = ys.length)
    (he : ∀ j (h1 : j < xs.length) (h2 : j < ys.length), SeqAt.EqAt A.in1 s xs[j] ys[j] true) (hu : A.units < cLine) (h : Q (.bool false) s) : wpAny (model prog w) A (compareOp .NotEq (.ref ta) (.ref tb)) Q E s := by
  refine SeqAt.RcNeAt.tuples (e := fun _ => true) (isTup N ha) (isTup N hb) hu (fun j h1 h2 => ?_) prog w E Q ?_
  · have := he j (by simpa using h1) (by simpa using h2)
    simpa using this
  · have e : (!((List.range (min xs.toArray.size ys.toArray.size)).all (fun _ => true) && xs.toArray.size == ys.toArray.size)) = false := by
      rw [List.all_eq_true.mpr (fun _ _ => rfl)]
      simp [hl]
    rw [e]
    exact h
theorem eqAt_ls1 {ca cb : Addr} {v v' : Value} {b : Bool} (N : News h₀ L s.heap news) (ha : (ca, ls1 v) ∈ news) (hb : (cb, ls1 v') ∈ news) (he : SeqAt.EqAt A.in1 s v v' b) (hu : A.units < cLine) (hne : ca ≠ cb) : SeqAt.EqAt A s (.ref ca) (.ref cb) b := by
  refine SeqAt.EqAt.of_refs hne ?_
  have q := SeqAt.RcAt.lists (A := A) (e := fun _ => b) (isLs1 N ha) (isLs1 N hb) rfl hu fun j h1 h2 => by
    obtain rfl : j = 0 := by simpa using h1
    exact he
  simpa [List.range, List.range.loop] using q
theorem rc_ls1 {ca cb : Addr} {v v' : Value} {b : Bool} {Q : Value → Shared → Prop} (N : News h₀ L s.heap news) (ha : (ca, ls1 v) ∈ news) (hb : (cb, ls1 v') ∈ news) (he : SeqAt.EqAt A.in1 s v v' b) (hu : A.units < cLine) (h : Q (.bool b) s) : wpAny (model prog w) A (compareOp .Eq (.ref ca) (.ref cb)) Q E s := by
  have q := SeqAt.RcAt.lists (A := A) (e := fun _ => b) (isLs1 N ha) (isLs1 N hb) rfl hu fun j h1 h2 => by
    obtain rfl : j = 0 := by simpa using h1
    exact he
  have q2 : SeqAt.RcAt A s (.ref ca) (.ref cb) b := by simpa [List.range, List.range.loop] using q
  exact q2 prog w E Q h
end

section
variable {prog : Program} {w : World} {A : Around} {E : Value → Shared → Prop} {R : Result → Shared → Prop} {s : Shared} {env : Env}
/-- one turn of a for whose target may be a tuple -/
theorem codeC_forTurn2 {target : PySem.Expr} {it : Value} {body : List Stmt}
    (h : wpAny (model prog w) A (pyNext it) (fun r s₁ => match r with
      | none => R (.ok .next) s₁
      | some v => wpAny (model prog w) A (letOwnedTupleGo target it v) (fun _ s₀ => wpAny (model prog w) A (assign target env v) (fun _ s₂ => wpC (model prog w) A (execs body env) (fun f s₃ => match f with
          | .next | .cont => codeC (model prog w) A (.forLoop target it body [] env) R s₃
          | .brk => R (.ok .next) s₃
          | .ret v => R (.ok (.ret v)) s₃) (fun _ _ => False) s₂) (fun _ _ => False) s₀) (fun _ _ => False) s₁) (fun _ _ => False) s) : codeC (model prog w) A (.forLoop target it body [] env) R s := by
  refine codeC_of_tree rfl ?_
  show wpC _ _ ((forTurn target it body [] env).onRaise (fun x => do noteFrame x env; theTreesLotGoes x)) _ _ s
  refine wpC_onRaise (wpC_mono (E := fun _ _ => False) ?_ (fun _ _ q => q) fun _ _ q => q.elim)
  simp only [forTurn]
  refine wpC_standAt (wpC_bind (wpC_of (wpAny_onRaise (wpAny_mono h (fun r s₁ h₁ => ?_) fun _ _ h' => h'.elim))))
  cases r with
  | none => exact wpC_pure ⟨rfl, codeC_of (codeAny_block (wpAny_execs_nil h₁))⟩
  | some v =>
    refine wpC_bind (wpC_of (wpAny_mono h₁ (fun _ s₀ h₀ => ?_) fun _ _ h' => h'))
    refine wpC_bind (wpC_of (wpAny_mono h₀ (fun _ s₂ h₂ => wpC_bind (wpC_mono h₂ (fun f s₃ h₃ => ?_) fun _ _ h' => h')) fun _ _ h' => h'))
    cases f with
    | next => exact wpC_pure ⟨rfl, h₃⟩
    | cont => exact wpC_pure ⟨rfl, h₃⟩
    | brk => exact wpC_pure h₃
    | ret v => exact wpC_pure h₃
theorem letOwned_tupleiter {elts : List PySem.Expr} {x1} {pos : Pos} {I T : Addr} {i : Nat} {v : Value} {Q : Unit → Shared → Prop} (hit : s.heap.IsTupleIter I T i) (hQ : Q () s) :
    wpAny (model prog w) A (letOwnedTupleGo (.Tuple elts x1 pos) (.ref I) v) Q E s := by
  obtain ⟨o, ho, hc, hd⟩ := hit
  unfold letOwnedTupleGo
  cases v with
  | ref a =>
    refine wpAny_bind ?_
    refine wpAny_load ho ?_
    rw [hc, hd]
    show wpAny _ A (if (["enumerate", "zip", "dict_itemiterator", "dict_reverseitemiterator", "odict_iterator", "itertools.zip_longest", "itertools.pairwise"].contains "tuple_iterator" && _) = true then _ else _) Q E s
    rw [if_neg (by
      intro h
      rw [show (["enumerate", "zip", "dict_itemiterator", "dict_reverseitemiterator", "odict_iterator", "itertools.zip_longest", "itertools.pairwise"].contains "tuple_iterator") = false from by decide, Bool.false_and] at h
      cases h)]
    exact wpAny_pure hQ
  | _ => exact wpAny_pure hQ
def PairTurn (h₀ : Heap) (L : Addr) (m : PySem.Str → Option Value) (news : List (Addr × Obj)) (s : Shared) (f : Flow) (s₃ : Shared) : Prop :=
  f = .next ∧ ∃ h' tk', s₃ = { s with heap := h', toks := tk' } ∧ Fr h₀ L h' m ∧ News h₀ L h' news
section
variable {h₀ : Heap} {m : PySem.Str → Option Value} {news : List (Addr × Obj)} {xa xl : PySem.Str} {pa pl pos : Pos} {x1 : Nat} {body : List Stmt} {I T : Addr}
theorem pair_next {p : Addr} {i : Nat} {items : Array Value} {a l : Value} {mm : PySem.Str → Option Value} (hh : A.handled = none) (hT : s.heap.IsTuple T items) (hi : items[i]? = some (.ref p))
    (F : Fr h₀ env.locals s.heap mm) (hit : s.heap.IsTupleIter I T i) (N : News h₀ env.locals s.heap news) (hI₀ : h₀.get? I = none) (hIL : env.locals ≠ I) (off : ∀ q ∈ news, q.1 ≠ I) (hTn : (T, tupO items.toList) ∈ news) (hp : (p, tupO [a, l]) ∈ news)
    (hxa : env.kindOf xa = some .local) (hxl : env.kindOf xl = some .local) (hc : (env.scope.kind == .class || (env.scope.kind == .module && env.locals != env.globals)) = false)
    (h : ∀ h tk, Fr h₀ env.locals h (fun y => if y = xl then some l else if y = xa then some a else mm y) → h.IsTupleIter I T (i + 1) → News h₀ env.locals h news →
      wpC (model prog w) A (execs body env) (fun f s₃ => match f with
          | .next | .cont => codeC (model prog w) A (.forLoop (.Tuple [.Name xa pa, .Name xl pl] x1 pos) (.ref I) body [] env) R s₃
          | .brk => R (.ok .next) s₃
          | .ret v => R (.ok (.ret v)) s₃) (fun _ _ => False) { s with heap := h, toks := tk }) : codeC (model prog w) A (.forLoop (.Tuple [.Name xa pa, .Name xl pl] x1 pos) (.ref I) body [] env) R s := by
  refine codeC_forTurn2 (wpAny_pyNext_tuple_item hit hT hi fun h₁ hit₁ hs₁ => ?_)
  have kp : ∀ b o, b ≠ I → s.heap.get? b = some o → h₁.get? b = some o := fun b o hb e => hs₁.extBut b o hb e
  have F₁ : Fr h₀ env.locals h₁ mm := ⟨F.ns.at' fun o e => kp _ o hIL e, fun b o e => kp b o (fun q => by rw [q, hI₀] at e; cases e) (F.keep b o e), F.above⟩
  have N₁ : News h₀ env.locals h₁ news := fun q hq => ⟨kp _ _ (off q hq) (N q hq).1, (N q hq).2⟩
  refine letOwned_tupleiter hit₁ ?_
  have hP : h₁.IsTuple p [a, l].toArray := ⟨_, (N₁ _ hp).1, rfl, _, rfl⟩
  obtain ⟨oI, hoI, hcI, hdI⟩ := id hit₁
  refine wpAny_assign_Tuple hh hP rfl rfl fun h₂ he₂ => ?_
  have F₂ : Fr h₀ env.locals h₂ mm := F₁.extBut he₂ (Nat.le_refl _)
  have N₂ : News h₀ env.locals h₂ news := fun q hq => ⟨he₂ _ _ (Nat.ne_of_lt (Heap.lt_size (N₁ q hq).1)) (N₁ q hq).1, (N₁ q hq).2⟩
  have hoI₂ : h₂.get? I = some oI := he₂ _ _ (Nat.ne_of_lt (Heap.lt_size hoI)) hoI
  show wpAny _ A (assignInOrder [assign (.Name xa pa) env, assign (.Name xl pl) env] [a, l]) _ _ _
  refine wpAny_bind (wpAny_holding (wpAny_assign_Name (wpAny_storeName_local hxa F₂.ns (fun h₃ hn₃ hs₃ => ?_) hc)))
  have F₃ := F₂.set hn₃ hs₃
  have N₃ := N₂.set hs₃
  have hoI₃ : h₃.get? I = some oI := hs₃.extBut _ _ (Ne.symm hIL) hoI₂
  refine wpAny_bind (wpAny_holding (wpAny_assign_Name (wpAny_storeName_local hxl F₃.ns (fun h₄ hn₄ hs₄ => ?_) hc)))
  have F₄ := F₃.set hn₄ hs₄
  have N₄ := N₃.set hs₄
  have hoI₄ : h₄.get? I = some oI := hs₄.extBut _ _ (Ne.symm hIL) hoI₃
  exact wpAny_pure (h _ _ F₄ ⟨oI, hoI₄, hcI, hdI⟩ N₄)
/-- a for over two pairs, whose turns leave all but the two names as they were -/
theorem forC_two {p1 p2 : Addr} {a1 l1 a2 l2 : Value} (hh : A.handled = none) (F : Fr h₀ env.locals s.heap m) (N : News h₀ env.locals s.heap news)
    (hT : (T, tupO [.ref p1, .ref p2]) ∈ news) (h1 : (p1, tupO [a1, l1]) ∈ news) (h2 : (p2, tupO [a2, l2]) ∈ news)
    (hxa : env.kindOf xa = some .local) (hxl : env.kindOf xl = some .local) (hc : (env.scope.kind == .class || (env.scope.kind == .module && env.locals != env.globals)) = false)
    (turn1 : ∀ h tk, Fr h₀ env.locals h (fun y => if y = xl then some l1 else if y = xa then some a1 else m y) → ∀ news', (∀ q ∈ news, q ∈ news') → News h₀ env.locals h news' →
      wpC (model prog w) A (execs body env) (PairTurn h₀ env.locals (fun y => if y = xl then some l1 else if y = xa then some a1 else m y) news' { s with heap := h, toks := tk }) (fun _ _ => False) { s with heap := h, toks := tk })
    (turn2 : ∀ h tk, Fr h₀ env.locals h (fun y => if y = xl then some l2 else if y = xa then some a2 else m y) → ∀ news', (∀ q ∈ news, q ∈ news') → News h₀ env.locals h news' →
      wpC (model prog w) A (execs body env) (PairTurn h₀ env.locals (fun y => if y = xl then some l2 else if y = xa then some a2 else m y) news' { s with heap := h, toks := tk }) (fun _ _ => False) { s with heap := h, toks := tk })
    (done : ∀ h tk, Fr h₀ env.locals h (fun y => if y = xl then some l2 else if y = xa then some a2 else m y) → R (.ok .next) { s with heap := h, toks := tk }) :
    wpAny (model prog w) A (pyIter (.ref T)) (fun it s₂ => codeC (model prog w) A (.forLoop (.Tuple [.Name xa pa, .Name xl pl] x1 pos) it body [] env) R s₂) E s := by
  have hT₀ := isTup N hT
  have hlt : ∀ q ∈ news, q.1 ≠ s.heap.objs.size := fun q hq => Nat.ne_of_lt (Heap.lt_size (N q hq).1)
  have hI₀ : h₀.get? s.heap.objs.size = none := next_is_new F
  have hIL : env.locals ≠ s.heap.objs.size := Nat.ne_of_lt F.ns.lt
  have same : ∀ (b1 b2 c1 c2 : Value), (fun y => if y = xl then some b1 else if y = xa then some b2 else (fun y => if y = xl then some c1 else if y = xa then some c2 else m y) y) = fun y => if y = xl then some b1 else if y = xa then some b2 else m y := fun b1 b2 c1 c2 => by
    funext y
    by_cases e1 : y = xl
    · simp [e1]
    · by_cases e2 : y = xa
      · simp [e1, e2]
      · simp [e1, e2]
  refine wpAny_pyIter_tuple hT₀ ?_
  have up : ∀ b o', s.heap.get? b = some o' → (s.heap.push { cls := .type "tuple_iterator", data := .fields #[.ref T, .int 0 0] }).get? b = some o' := fun b o' e => Heap.get?_push_of_some _ e
  refine pair_next (s := { s with heap := _ }) (i := 0) (items := [Value.ref p1, .ref p2].toArray) hh (hT₀.push _) rfl (F.keeps up) ⟨_, Heap.get?_push_size _ rfl, rfl, rfl⟩ (fun q hq => ⟨up _ _ (N q hq).1, (N q hq).2⟩) hI₀ hIL hlt hT h1 hxa hxl hc fun h₁ tk₁ F₁ hit₁ N₁ => ?_
  obtain ⟨oI, hoI, hcI, hdI⟩ := hit₁
  have NI : News h₀ env.locals h₁ ((s.heap.objs.size, oI) :: news) := fun q hq => by
    rcases List.mem_cons.mp hq with rfl | hq
    · exact ⟨hoI, Ne.symm hIL, hI₀⟩
    · exact N₁ q hq
  refine wpC_mono (turn1 h₁ tk₁ F₁ _ (fun q hq => .tail _ hq) NI) (fun f s₃ z => ?_) fun _ _ e => e
  obtain ⟨rfl, h₃, tk₃, rfl, F₃, N₃⟩ := z
  have N₃' : News h₀ env.locals h₃ news := fun q hq => N₃ q (.tail _ hq)
  refine pair_next (s := { s with heap := h₃, toks := tk₃ }) (i := 1) (items := [Value.ref p1, .ref p2].toArray) hh (isTup (s := { s with heap := h₃ }) N₃' hT) rfl F₃ ⟨oI, (N₃ _ (.head _)).1, hcI, hdI⟩ N₃' hI₀ hIL hlt hT h2 hxa hxl hc fun h₅ tk₅ F₅ hit₅ N₅ => ?_
  obtain ⟨oJ, hoJ, hcJ, hdJ⟩ := hit₅
  have NJ : News h₀ env.locals h₅ ((s.heap.objs.size, oJ) :: news) := fun q hq => by
    rcases List.mem_cons.mp hq with rfl | hq
    · exact ⟨hoJ, Ne.symm hIL, hI₀⟩
    · exact N₅ q hq
  rw [same] at F₅
  refine wpC_mono (turn2 h₅ tk₅ F₅ _ (fun q hq => .tail _ hq) NJ) (fun f s₆ z => ?_) fun _ _ e => e
  obtain ⟨rfl, h₆, tk₆, rfl, F₆, N₆⟩ := z
  have N₆' : News h₀ env.locals h₆ news := fun q hq => N₆ q (.tail _ hq)
  refine codeC_forTurn2 (wpAny_pyNext_tuple_end (s := { s with heap := h₆, toks := tk₆ }) hh ⟨oJ, (N₆ _ (.head _)).1, hcJ, hdJ⟩ (isTup (s := { s with heap := h₆ }) N₆' hT) rfl fun h₇ he₇ => ?_)
  exact done h₇ tk₆ ⟨F₆.ns.at' fun o e => he₇ _ o hIL e, fun b o e => he₇ b o (fun q => by rw [q, hI₀] at e; cases e) (F₆.keep b o e), F₆.above⟩
end
end

/-- the tags that the law draws -/
def Tag (y : PySem.Str) : Prop := y = Str.ofString "*" ∨ y = Str.ofString "t1"
theorem Tag.asc {y : PySem.Str} (h : Tag y) : Asc 8 y := by rcases h with rfl | rfl <;> (unfold Asc; decide)
/-- what the law knows of its text: the place AT, the octets OC -/
def Told (ts : List Nat) (AT : Int) (OC : List UInt8) : Prop := (bad ts = none ∧ AT = -1 ∧ OC = octs (tx ts)) ∨ ∃ i : Nat, bad ts = some i ∧ AT = (i : Int) ∧ OC = []
theorem octs_tx (ts : List Nat) : octs (tx ts) = ts.map fun c => c.toUInt8 := rfl
theorem Told.len {ts : List Nat} {AT : Int} {OC : List UInt8} (h : Told ts AT OC) (hl : ts.length ≤ 100) : LB 100 OC := by
  rcases h with ⟨_, _, rfl⟩ | ⟨_, _, _, rfl⟩
  · exact LB.tx hl
  · unfold LB; simp
theorem good_of {ts : List Nat} (h : bad ts = none) : (∀ c ∈ ts, 32 ≤ c ∧ c < 127) ∧ ts.head? ≠ some 91 ∧ ts.getLast? ≠ some 125 := by
  unfold bad at h
  split at h
  · cases h
  · rename_i e
    split at h
    · cases h
    · rename_i n
      refine ⟨fun c hc => ?_, fun q => n (.inl q), fun q => n (.inr q)⟩
      have := (List.findIdx?_eq_none_iff.mp e) c hc
      simp [okC] at this
      exact this
theorem nat_u8 {c : Nat} (h : c < 256) : (c.toUInt8).toNat = c := by
  rw [show c.toUInt8.toNat = c % 256 from by simp [Nat.toUInt8]]
  exact Nat.mod_eq_of_lt h
theorem good_txt1 {ts : List Nat} (h : bad ts = none) (hl : ts.length ≤ 100) : Txt1 (octs (tx ts)) := by
  obtain ⟨h1, h2, h3⟩ := good_of h
  rw [octs_tx]
  refine ⟨fun c hc => ?_, ⟨fun q => ?_, fun q => ?_⟩, by rw [List.length_map]; omega⟩
  · obtain ⟨d, hd, rfl⟩ := List.mem_map.mp hc
    have := h1 d hd
    rw [nat_u8 (by omega)]
    unfold isTx
    exact decide_eq_true (by omega)
  · rw [List.head?_map] at q
    obtain ⟨d, hd, e⟩ := Option.map_eq_some_iff.mp q
    have e2 : d.toUInt8.toNat = 91 := by rw [e]; rfl
    rw [nat_u8 (by have := h1 d (List.mem_of_mem_head? hd); omega)] at e2
    exact h2 (by rw [hd, e2])
  · rw [List.getLast?_map] at q
    obtain ⟨d, hd, e⟩ := Option.map_eq_some_iff.mp q
    have e2 : d.toUInt8.toNat = 125 := by rw [e]; rfl
    rw [nat_u8 (by have := h1 d (List.mem_of_mem_getLast? hd); omega)] at e2
    exact h3 (by rw [hd, e2])
theorem good_back {ts : List Nat} (h : bad ts = none) : txt (octs (tx ts)) = tx ts := by
  obtain ⟨h1, _⟩ := good_of h
  rw [octs_tx]
  show (⟨((ts.map fun c => c.toUInt8).map fun c => c.toNat).toArray⟩ : PySem.Str) = ⟨ts.toArray⟩
  rw [List.map_map]
  congr 2
  conv => rhs; rw [← List.map_id ts]
  refine List.map_congr_left fun c hc => ?_
  have := h1 c hc
  exact nat_u8 (by omega)
theorem good_ints {ts : List Nat} (h : bad ts = none) : ts.map (fun c : Nat => (c : Int)) = (octs (tx ts)).map fun c => (c.toNat : Int) :=
  octs_ints (x := tx ts) fun c hc => by
    have := (good_of h).1 c (by simpa using hc)
    omega
theorem head_star {x : PySem.Str} (h : Word x) : octs (Str.ofString "*" ++ Str.ofString " " ++ upS x ++ Str.ofString " ") = [42, 32] ++ (WW x ++ [32]) := by rcases h with rfl | rfl | rfl <;> decide
theorem head_tag {x : PySem.Str} (h : Word x) : octs (Str.ofString "t1" ++ Str.ofString " " ++ upS x ++ Str.ofString " ") = ([116, 49] ++ [32]) ++ (WW x ++ [32]) := by rcases h with rfl | rfl | rfl <;> decide
theorem due_star {x : PySem.Str} (h : Word x) (Y O : List UInt8) : octs (Str.ofString "*" ++ Str.ofString " " ++ upS x ++ Str.ofString " ") ++ Y ++ O ++ [13, 10] = [42, 32] ++ (WW x ++ 32 :: (Y ++ (O ++ [13, 10]))) := by rw [head_star h]; simp
theorem due_tag {x : PySem.Str} (h : Word x) (Y O : List UInt8) : octs (Str.ofString "t1" ++ Str.ofString " " ++ upS x ++ Str.ofString " ") ++ Y ++ O ++ [13, 10] = [116, 49] ++ [32] ++ (WW x ++ 32 :: (Y ++ (O ++ [13, 10]))) := by rw [head_tag h]; simp
theorem CodeAt.shape {cv : Value} {Y : List UInt8} {news : List (Addr × Obj)} (h : CodeAt cv Y news) : Y = [] ∨ ∃ v P, Worth v P ∧ Y = 91 :: (P ++ [93, 32]) := by
  rcases h with ⟨_, rfl⟩ | ⟨c, v, P, _, _, rfl, hv⟩
  · exact .inl rfl
  · exact .inr ⟨v, P, hv, by simp⟩
theorem CodeAt.len {cv : Value} {Y : List UInt8} {news : List (Addr × Obj)} (h : CodeAt cv Y news) : LB 8 Y := by
  rcases h with ⟨_, rfl⟩ | ⟨c, v, P, _, _, rfl, hv⟩
  · unfold LB; simp
  · have := hv.len
    unfold LB at *
    simp
    omega
theorem word_upper {x : PySem.Str} (h : Word x) : Txt.upper x = upS x := by rcases h with rfl | rfl | rfl <;> decide +kernel
theorem call_upper {prog : Program} {w : World} {A : Around} {E : Value → Shared → Prop} {s : Shared} {x : PySem.Str} {t : Tok} {Q : Value → Shared → Prop} (hw : Word x) (h : ∀ t' tk, Q (.str (upS x) t') { s with toks := tk }) : wpAny (model prog w) A (call (.builtin "str.upper") [.str x t]) Q E s :=
  SCL.upper (by have : x.length ≤ 8 := hw.asc.2; omega) fun _ => by rw [word_upper hw]; exact h _ _
section
variable {A : Around} {s : Shared} {h₀ : Heap} {L : Addr} {news own1 own2 : List (Addr × Obj)}
theorem eqAt_worth {v v' : Value} {P : List UInt8} (h1 : Worth v P) (h2 : Worth v' P) : SeqAt.EqAt A s v v' true := by
  rcases h1 with ⟨t, rfl, e1⟩ | ⟨t, rfl, e1⟩
  · rcases h2 with ⟨u, rfl, e2⟩ | ⟨u, rfl, e2⟩
    · exact SeqAt.EqAt.int_int 7 t 7 u
    · rw [e1] at e2; exact absurd e2 (by decide)
  · rcases h2 with ⟨u, rfl, e2⟩ | ⟨u, rfl, e2⟩
    · rw [e1] at e2; exact absurd e2 (by decide)
    · exact eqAt_bytes _ t u
theorem eqAt_code {cv cv' : Value} {Y : List UInt8} (N : News h₀ L s.heap news) (h1 : CodeAt cv Y own1) (h2 : CodeAt cv' Y own2) (s1 : ∀ p ∈ own1, p ∈ news) (s2 : ∀ p ∈ own2, p ∈ news) (hu : A.units < cLine) : SeqAt.EqAt A s cv cv' true := by
  rcases h1 with ⟨rfl, e1⟩ | ⟨c, v, P, rfl, m1, e1, v1⟩
  · rcases h2 with ⟨rfl, e2⟩ | ⟨c', v', P', rfl, m2, e2, v2⟩
    · exact SeqAt.EqAt.same _
    · rw [e1] at e2; simp at e2
  · rcases h2 with ⟨rfl, e2⟩ | ⟨c', v', P', rfl, m2, e2, v2⟩
    · rw [e1] at e2; simp at e2
    · obtain rfl : P = P' := by
        rw [e1] at e2
        simpa using e2
      by_cases hc : c = c'
      · subst hc; exact SeqAt.EqAt.same _
      · exact eqAt_ls1 N (s1 _ m1) (s2 _ m2) (eqAt_worth v1 v2) hu hc
theorem eq_ans {x y z : PySem.Str} {cv cv' : Value} {Y : List UInt8} {u1 u2 u3 v1 v2 v3 : Tok} (N : News h₀ L s.heap news) (h1 : CodeAt cv Y own1) (h2 : CodeAt cv' Y own2) (s1 : ∀ p ∈ own1, p ∈ news) (s2 : ∀ p ∈ own2, p ∈ news) (hu : A.units < cLine) :
    ∀ j (h1 : j < [Value.str x u1, .str y u2, cv, .str z u3].length) (h2 : j < [Value.str x v1, .str y v2, cv', .str z v3].length), SeqAt.EqAt A s [Value.str x u1, .str y u2, cv, .str z u3][j] [Value.str x v1, .str y v2, cv', .str z v3][j] true := fun j j1 j2 => by
  have st : ∀ (a : PySem.Str) (t u : Tok), SeqAt.EqAt A s (.str a t) (.str a u) true := fun a t u => by
    have := SeqAt.EqAt.str_str (A := A) (s := s) a t a u
    rwa [beq_self_eq_true] at this
  match j, j1 with
  | 0, _ => exact st _ _ _
  | 1, _ => exact st _ _ _
  | 2, _ => exact eqAt_code N h1 h2 s1 s2 hu
  | 3, _ => exact st _ _ _
theorem eq_go {x z : PySem.Str} {u1 u3 v1 v3 : Tok} : ∀ j (h1 : j < [Value.str x u1, .str z u3].length) (h2 : j < [Value.str x v1, .str z v3].length), SeqAt.EqAt A s [Value.str x u1, .str z u3][j] [Value.str x v1, .str z v3][j] true := fun j j1 j2 => by
  have st : ∀ (a : PySem.Str) (t u : Tok), SeqAt.EqAt A s (.str a t) (.str a u) true := fun a t u => by
    have := SeqAt.EqAt.str_str (A := A) (s := s) a t a u
    rwa [beq_self_eq_true] at this
  match j, j1 with
  | 0, _ => exact st _ _ _
  | 1, _ => exact st _ _ _
end
theorem ne_same {prog : Program} {w : World} {A : Around} {E : Value → Shared → Prop} {s : Shared} {b c : List UInt8} {t u : Tok} {Q : Value → Shared → Prop} (e : b = c) (h : Q (.bool false) s) : wpAny (model prog w) A (compareOp .NotEq (.bytes b.toArray t) (.bytes c.toArray u)) Q E s := by
  subst e
  refine PySem.W.ne_bytes ?_
  rw [show (b.toArray.toList != b.toArray.toList) = false from by simp]
  exact h
theorem ne_same_int {prog : Program} {w : World} {A : Around} {E : Value → Shared → Prop} {s : Shared} {i : Int} {t u : Tok} {Q : Value → Shared → Prop} (h : Q (.bool false) s) : wpAny (model prog w) A (compareOp .NotEq (.int i t) (.int i u)) Q E s := by
  refine SeqAt.RcNeAt.int_int i t i u prog w E Q ?_
  rw [show (!(i == i)) = false from by simp]
  exact h
theorem draw2 (ns : List Int) (k : Int) : drawV ns k 2 = 0 ∨ drawV ns k 2 = 1 := by
  obtain ⟨n, h, e⟩ := drawV_nat ns k (limit := 2) (by decide)
  rw [e]; omega
theorem draw3 (ns : List Int) (k : Int) : drawV ns k 3 = 0 ∨ drawV ns k 3 = 1 ∨ drawV ns k 3 = 2 := by
  obtain ⟨n, h, e⟩ := drawV_nat ns k (limit := 3) (by decide)
  rw [e]; omega
theorem News.dr1 {h₀ h : Heap} {L : Addr} {p q r u : Addr × Obj} (N : News h₀ L h [p, q, r, u]) : News h₀ L h [q, r, p, u] := fun z hz => N z (by
  simp only [List.mem_cons, List.not_mem_nil, or_false] at hz ⊢
  rcases hz with h | h | h | h <;> simp [h])
theorem News.dr3 {h₀ h : Heap} {L : Addr} {p p2 p3 q r u : Addr × Obj} (N : News h₀ L h [p, p2, p3, q, r, u]) : News h₀ L h [q, r, p, p2, p3, u] := fun z hz => N z (by
  simp only [List.mem_cons, List.not_mem_nil, or_false] at hz ⊢
  rcases hz with h | h | h | h | h | h <;> simp [h])
theorem News.pick1 {h₀ h : Heap} {L : Addr} {p q r u : Addr × Obj} (N : News h₀ L h [p, q, r, u]) : News h₀ L h [p, q, u] := fun z hz => N z (by
  simp only [List.mem_cons, List.not_mem_nil, or_false] at hz ⊢
  rcases hz with h | h | h <;> simp [h])
theorem off1 {p : Addr × Obj} {l src : Addr} {oc : Obj} (h : @LT.lt Nat instLTNat src p.1) (hl : @LT.lt Nat instLTNat l src) : ∀ z ∈ [p, (l, oc)], z.1 ≠ src := fun z hz => by
  rcases List.mem_cons.mp hz with rfl | hz
  · exact Nat.ne_of_gt h
  · rw [List.mem_singleton.mp hz]; exact Nat.ne_of_lt hl
theorem off3 {p q r : Addr × Obj} {l src : Addr} {oc : Obj} (h : @LT.lt Nat instLTNat src p.1) (h2 : @LT.lt Nat instLTNat src q.1) (h3 : @LT.lt Nat instLTNat src r.1) (hl : @LT.lt Nat instLTNat l src) : ∀ z ∈ [p, q, r, (l, oc)], z.1 ≠ src := fun z hz => by
  rcases List.mem_cons.mp hz with rfl | hz
  · exact Nat.ne_of_gt h
  · rcases List.mem_cons.mp hz with rfl | hz
    · exact Nat.ne_of_gt h2
    · exact off1 h3 hl z hz
def forBody : List Stmt → List Stmt
  | .For _ _ b _ _ :: _ => b
  | _ => []
def pickP {α : Type} {x : Option α} {p : α} (_ : x = some p) : α := p
/-- the law's own record, written out -/
noncomputable def pT : DefRec × List (PySem.Str × PySem.Expr) := pickP (x := (recsL.find? fun e => e.name == PySem.Challenge.rw_nz0333_01.row.name).map fun d => (d, [])) rfl
noncomputable def dT : DefRec := pT.1
theorem defOf_eq {p : Program} {name : PySem.Str} {R : List DefRec} {W : List (DefRec × List (PySem.Str × PySem.Expr))} {r : Option (DefRec × List (PySem.Str × PySem.Expr))} (h1 : recsOf p = R) (h2 : wdefsOf p = W)
    (h : (match R.find? (fun e => e.name == name) with | some d => if d.params.defaults.isEmpty then some (d, []) else none | none => W.find? fun e => e.1.name == name) = r) : defOf p name = r := by
  subst h1 h2
  exact h
theorem law_def : defOf hd.view_1 PySem.Challenge.rw_nz0333_01.row.name = some pT := by
  refine defOf_eq (p := hd.view_1) e_recs e_wdefs ?_
  kernel_rfl
def JoinO (g : Heap) (L : Addr) (m0 : PySem.Str → Option Value) (x : PySem.Str) (s : Shared) (P : Value → List (Addr × Obj) → Prop) (f : Flow) (s' : Shared) : Prop :=
  f = .next ∧ ∃ v own h tk, P v own ∧ s' = { s with heap := h, toks := tk } ∧ Fr g L h (fun y => if y = x then some v else m0 y) ∧ News g L h own
theorem joinO {M : Model} {A : Around} {E : Value → Shared → Prop} {Q : Flow → Shared → Prop} {s : Shared} {env : Env} {g : Heap} {L : Addr} {m0 : PySem.Str → Option Value} {x : PySem.Str} {st : Stmt} {rest : List Stmt} (P : Value → List (Addr × Obj) → Prop) (F : Fr g L s.heap m0)
    (h2 : ∀ v own h tk, P v own → Fr g L h (fun y => if y = x then some v else m0 y) → News g L h own → wpC M A (execs rest env) Q E { s with heap := h, toks := tk })
    (h1 : wpC M A (exec st env) (JoinO g L m0 x s P) E s) : wpC M A (execs (st :: rest) env) Q E s := by
  refine wpC_execs_cons (wpC_mono h1 (fun f s' z => ?_) fun _ _ e => e)
  obtain ⟨rfl, v, own, h, tk, hP, rfl, F', N'⟩ := z
  exact h2 v own h tk hP F' N'
theorem sign_at {n : Nat} (h : n < 15) (t : Tok) : Sign (.str ([Str.ofString "a", Str.ofString "[", Str.ofString "{", Str.ofString "}", Str.ofString "3", Str.ofString " ", Str.ofString "]", Str.ofString "\\", Str.ofString "\"", Str.ofString "\n", Str.ofString "\x7f", Str.ofString "é", Str.ofString "~", Str.ofString "\t", Str.ofString "*"].getD n Str.empty) t) := by
  match n, h with
  | 0, _ | 1, _ | 2, _ | 3, _ | 4, _ | 5, _ | 6, _ | 7, _ | 8, _ | 9, _ | 10, _ | 11, _ | 12, _ | 13, _ | 14, _ => exact ⟨_, t, rfl⟩
theorem draw_mem {q r u i c d : Addr × Obj} : ∀ p ∈ [i, c, d] ++ [q, r, u], p ∈ [q, r, i, c, d, u] := fun p hp => by
  simp only [List.cons_append, List.nil_append, List.mem_cons, List.not_mem_nil, or_false] at hp ⊢
  rcases hp with h | h | h | h | h | h <;> simp [h]
theorem signs_are : ∀ {ys : List Value}, (∀ y ∈ ys, Sign y) → ∃ ts : List Nat, ts.length = ys.length ∧ StrsAre ys (ts.map fun n => (⟨#[n]⟩ : PySem.Str))
  | [], _ => ⟨[], rfl, .nil⟩
  | y :: ys, h => by
    obtain ⟨c, u, rfl⟩ := h y (.head _)
    obtain ⟨ts, e, S⟩ := signs_are fun z hz => h z (.tail _ hz)
    exact ⟨c :: ts, by simp [e], .cons _ _ S⟩

theorem reg68 : True := by
  k_with "call ref" => (k_here; (with_reducible show wpAny _ _ (call (Value.ref 793) _) _ _ _); (with_reducible rename News _ _ _ _ => N8); (first | replace N8 := News.dr1 N8 | replace N8 := News.dr3 N8); k_dflt (refine' c_ldraw ?k1 ?k2 ?k3 N8 ?k5 ?kK ?kp ?kd ?ku ?_; (case k1 => k_asm); (case k2 => k_asm); (case k3 => k_asm); (case k5 => k_asm); (case kK => exact rfl); (case kp => exact ⟨by with_reducible assumption, ⟨by omega, by omega⟩, ⟨by omega, by omega⟩, ⟨by omega, by omega⟩, by assumption, by first | exact off1 (by omega) (by omega) | exact off3 (by omega) (by omega) (by omega) (by omega)⟩); (case kd => ktr_room); (case ku => ktr_units); k_whole); intro _ _ _ _ _ _; clear N8; ((with_reducible rename drawV _ _ _ = _ => e9); rw [e9]); (try dsimp only); (try k_fold))
  trivial
theorem law_t1 {w : World} {mean : ExcName → Option Value} {mg mb : PySem.Str → Option Value} {h₀ : Heap} {L a : Addr} {cd : Value} {s : Shared}  {x y : PySem.Str} {cv : Value} {Y OC DUE LN : List UInt8} {ts : List Nat} {AT : Int} {u1 u2 u3 u4 u5 u6 u7 : Tok} {m0 : PySem.Str → Option Value} {own : List (Addr × Obj)} {ta : Addr}
    (B : Below callerA h₀ [] h₀) (X : (hd.heap_1 w.params).In h₀) (T : Top topProg Lz mean mg mb h₀) (F : Fr h₀ L s.heap (fun z => if z = Str.ofString "line" then some (.bytes LN.toArray u7) else if z = Str.ofString "answer" then some (.ref ta) else if z = Str.ofString "due" then some (.bytes DUE.toArray u6) else if z = Str.ofString "code" then some (cv) else if z = Str.ofString "tag" then some (.str y u5) else if z = Str.ofString "word" then some (.str x u4) else if z = Str.ofString "octets" then some (.bytes OC.toArray u3) else if z = Str.ofString "at" then some (.int AT u2) else if z = Str.ofString "text" then some (.str (tx ts) u1) else m0 z)) (N : News h₀ L s.heap own) (hT : (ta, tupO [.str x u4, .str y u5, cv, .str (tx ts) u1]) ∈ own) (hc : CodeAt cv Y own) (hw : Word x) (hy : Tag y) (ht : Told ts AT OC) (hts : ts.length ≤ 100) (hL : LN = octs (y ++ Str.ofString " " ++ upS x ++ Str.ofString " ") ++ Y ++ OC ++ [13, 10]) :
    wpC (model PySem.Challenge.rw_nz0333_01.row.prog w) (callerA.deeper (envOfC dT.name dT.scope L a cd)) (execs (forBody (dT.body.drop 10)) (envOfC dT.name dT.scope L a cd)) (PairTurn h₀ L (fun z => if z = Str.ofString "line" then some (.bytes LN.toArray u7) else if z = Str.ofString "answer" then some (.ref ta) else if z = Str.ofString "due" then some (.bytes DUE.toArray u6) else if z = Str.ofString "code" then some (cv) else if z = Str.ofString "tag" then some (.str y u5) else if z = Str.ofString "word" then some (.str x u4) else if z = Str.ofString "octets" then some (.bytes OC.toArray u3) else if z = Str.ofString "at" then some (.int AT u2) else if z = Str.ofString "text" then some (.str (tx ts) u1) else m0 z) own s) (fun _ _ => False) s := by
  delta dT pT pickP
  dsimp only
  show wpC _ _ (execs (_ :: _) _) _ _ _
  have hY := hc.len
  refine wpC_execs_cons ?_
  refine wpC_If ?_
  refine wpC_isTrue_Compare1 ?_
  refine wpC_Call ?_
  k_steps
  refine wpC_callWith_K (K := hd.heap_1 w.params) (by k_is) ?_
  refine wpC_args_cons ?_
  refine wpC_of ?_
  k_steps
  refine wpC_args_nil ⟨by k_in, ?_⟩
  k_dflt (refine' c_lwstatus (outer := []) (base := h₀) ?k1 ?k2 ?k3 ?k4 ?k5 ?kK ?kp ?kd ?ku ?_; (case k1 => k_asm); (case k2 => k_asm); (case k3 => k_asm); (case k4 => k_asm); (case k5 => k_asm); (case kK => first | exact rfl | assumption); (case kp => exact ⟨⟨hT, hc, hw, hy.asc, hY⟩, by omega⟩); (case kd => ktr_room); (case ku => ktr_units))
  rcases ht with ⟨hb, rfl, rfl⟩ | ⟨i, hb, rfl, rfl⟩
  · refine ⟨fun _ t9 h9 tk9 F9 N9 => ?_, fun i hi => absurd (hb.symm.trans hi) nofun⟩
    refine wpC_of ?_
    k_steps
    refine wpC_of (ne_same hL.symm ?_)
    walk_at "mine:c_s"
    refine wpC_of ?_
    refine wpAny_execs_nil ?_
    dsimp only
    refine wpC_execs_cons ?_
    refine wpC_If ?_
    refine wpC_isTrue_and ?_
    refine wpC_of ?_
    k_steps

    have hD1 := good_txt1 hb hts
    rcases hy with rfl | rfl
    · refine wpC_isTrue_and ?_
      refine wpC_isTrue_Compare1 ?_
      refine wpC_Call ?_
      k_steps
      refine wpC_callWith_K (K := hd.heap_1 w.params) (by k_is) ?_
      refine wpC_args_cons ?_
      refine wpC_of ?_
      k_steps
      refine wpC_args_nil ⟨by k_in, ?_⟩
      k_dflt (refine' c_rstar (outer := []) (base := h₀) (O := octs (tx ts)) (wd := x) (Y := Y) ?k1 ?k2 ?k3 ?k4 ?k5 ?kK ?kp ?kd ?ku ?_; (case k1 => k_asm); (case k2 => k_asm); (case k3 => k_asm); (case k4 => k_asm); (case k5 => k_asm); (case kK => first | exact rfl | assumption); (case kp => exact ⟨hL.trans (due_star hw _ _), hD1, hw, hY, hc.shape⟩); (case kd => ktr_room); (case ku => ktr_units))
      intro tb own' cv' b1 b2 b3 hc' h8 tk8 F8 N8
      rw [hw.low, good_back hb] at N8
      walk_at "mine:c_s"
      refine wpC_of (ne_tup N8 (.head _) (.tail _ (List.mem_append_right _ hT)) rfl (eq_ans N8 hc' hc (fun p hp => .tail _ (List.mem_append_left _ hp)) (fun p hp => .tail _ (List.mem_append_right _ hp)) (by ke_room)) (by ke_room) ?_)
      walk_at "mine:c_s"
      refine wpC_of ?_
      refine wpAny_execs_nil ?_
      dsimp only
      refine wpC_of ?_
      refine wpAny_execs_nil ?_
      exact ⟨rfl, _, _, rfl, by k_asm, fun p hp => N8 p (.tail _ (List.mem_append_right _ hp))⟩

    · refine wpC_isTrue_and ?_
      refine wpC_isTrue_Compare1 ?_
      refine wpC_Call ?_
      k_steps
      refine wpC_callWith_K (K := hd.heap_1 w.params) (by k_is) ?_
      refine wpC_args_cons ?_
      refine wpC_of ?_
      k_steps
      refine wpC_args_nil ⟨by k_in, ?_⟩
      k_dflt (refine' c_rtag (outer := []) (base := h₀) (O := octs (tx ts)) (wd := x) (Y := Y) ?k1 ?k2 ?k3 ?k4 ?k5 ?kK ?kp ?kd ?ku ?_; (case k1 => k_asm); (case k2 => k_asm); (case k3 => k_asm); (case k4 => k_asm); (case k5 => k_asm); (case kK => first | exact rfl | assumption); (case kp => exact ⟨hL.trans (due_tag hw _ _), hD1, hw, hY, hc.shape⟩); (case kd => ktr_room); (case ku => ktr_units))
      intro tb own' cv' b1 b2 b3 hc' h8 tk8 F8 N8
      rw [hw.low, good_back hb, show txt [116, 49] = Str.ofString "t1" from by decide] at N8
      walk_at "mine:c_s"
      refine wpC_of (ne_tup N8 (.head _) (.tail _ (List.mem_append_right _ hT)) rfl (eq_ans N8 hc' hc (fun p hp => .tail _ (List.mem_append_left _ hp)) (fun p hp => .tail _ (List.mem_append_right _ hp)) (by ke_room)) (by ke_room) ?_)
      walk_at "mine:c_s"
      refine wpC_of ?_
      refine wpAny_execs_nil ?_
      dsimp only
      refine wpC_of ?_
      refine wpAny_execs_nil ?_
      exact ⟨rfl, _, _, rfl, by k_asm, fun p hp => N8 p (.tail _ (List.mem_append_right _ hp))⟩

  · have hi0 : ¬ (i : Int) < 0 := by omega
    refine ⟨fun hn => absurd (hb.symm.trans hn) nofun, fun i' hi t9 h9 tk9 F9 N9 => ?_⟩
    obtain rfl : i = i' := by rw [hb] at hi; exact Option.some.inj hi
    refine wpC_of ?_
    k_steps
    refine wpC_of (ne_same_int ?_)
    walk_at "mine:c_s"
    refine wpC_of ?_
    refine wpAny_execs_nil ?_
    dsimp only
    refine wpC_execs_cons ?_
    refine wpC_If ?_
    refine wpC_isTrue_and ?_
    refine wpC_of ?_
    k_steps

    refine wpC_of ?_
    refine wpAny_execs_nil ?_
    dsimp only
    refine wpC_of ?_
    refine wpAny_execs_nil ?_
    exact ⟨rfl, _, _, rfl, by k_asm, by k_asm⟩

theorem law_t2 {w : World} {mean : ExcName → Option Value} {mg mb : PySem.Str → Option Value} {h₀ : Heap} {L a : Addr} {cd : Value} {s : Shared}  {x y : PySem.Str} {cv : Value} {OC DUE LN : List UInt8} {ts : List Nat} {AT : Int} {u1 u2 u3 u4 u5 u6 u7 u8 : Tok} {m0 : PySem.Str → Option Value} {own : List (Addr × Obj)} {ta : Addr}
    (B : Below callerA h₀ [] h₀) (X : (hd.heap_1 w.params).In h₀) (T : Top topProg Lz mean mg mb h₀) (F : Fr h₀ L s.heap (fun z => if z = Str.ofString "line" then some (.bytes LN.toArray u7) else if z = Str.ofString "answer" then some (.ref ta) else if z = Str.ofString "due" then some (.bytes DUE.toArray u6) else if z = Str.ofString "code" then some (cv) else if z = Str.ofString "tag" then some (.str y u5) else if z = Str.ofString "word" then some (.str x u4) else if z = Str.ofString "octets" then some (.bytes OC.toArray u3) else if z = Str.ofString "at" then some (.int AT u2) else if z = Str.ofString "text" then some (.str (tx ts) u1) else m0 z)) (N : News h₀ L s.heap own) (hT : (ta, tupO [.str (Str.ofString "go on") u8, .str (tx ts) u1]) ∈ own) (ht : Told ts AT OC) (hts : ts.length ≤ 100) (hL : LN = [43, 32] ++ OC ++ [13, 10]) :
    wpC (model PySem.Challenge.rw_nz0333_01.row.prog w) (callerA.deeper (envOfC dT.name dT.scope L a cd)) (execs (forBody (dT.body.drop 10)) (envOfC dT.name dT.scope L a cd)) (PairTurn h₀ L (fun z => if z = Str.ofString "line" then some (.bytes LN.toArray u7) else if z = Str.ofString "answer" then some (.ref ta) else if z = Str.ofString "due" then some (.bytes DUE.toArray u6) else if z = Str.ofString "code" then some (cv) else if z = Str.ofString "tag" then some (.str y u5) else if z = Str.ofString "word" then some (.str x u4) else if z = Str.ofString "octets" then some (.bytes OC.toArray u3) else if z = Str.ofString "at" then some (.int AT u2) else if z = Str.ofString "text" then some (.str (tx ts) u1) else m0 z) own s) (fun _ _ => False) s := by
  delta dT pT pickP
  dsimp only
  show wpC _ _ (execs (_ :: _) _) _ _ _
  refine wpC_execs_cons ?_
  refine wpC_If ?_
  refine wpC_isTrue_Compare1 ?_
  refine wpC_Call ?_
  k_steps
  refine wpC_callWith_K (K := hd.heap_1 w.params) (by k_is) ?_
  refine wpC_args_cons ?_
  refine wpC_of ?_
  k_steps
  refine wpC_args_nil ⟨by k_in, ?_⟩
  k_dflt (refine' c_lwgo (outer := []) (base := h₀) ?k1 ?k2 ?k3 ?k4 ?k5 ?kK ?kp ?kd ?ku ?_; (case k1 => k_asm); (case k2 => k_asm); (case k3 => k_asm); (case k4 => k_asm); (case k5 => k_asm); (case kK => first | exact rfl | assumption); (case kp => exact ⟨hT, by omega⟩); (case kd => ktr_room); (case ku => ktr_units))
  rcases ht with ⟨hb, rfl, rfl⟩ | ⟨i, hb, rfl, rfl⟩
  · refine ⟨fun _ t9 h9 tk9 F9 N9 => ?_, fun i hi => absurd (hb.symm.trans hi) nofun⟩
    refine wpC_of ?_
    k_steps
    refine wpC_of (ne_same hL.symm ?_)
    walk_at "mine:c_s"
    refine wpC_of ?_
    refine wpAny_execs_nil ?_
    dsimp only
    refine wpC_execs_cons ?_
    refine wpC_If ?_
    refine wpC_isTrue_and ?_
    refine wpC_of ?_
    k_steps

    have hD1 := good_txt1 hb hts
    · refine wpC_isTrue_and ?_
      refine wpC_isTrue_Compare1 ?_
      refine wpC_Call ?_
      k_steps
      refine wpC_callWith_K (K := hd.heap_1 w.params) (by k_is) ?_
      refine wpC_args_cons ?_
      refine wpC_of ?_
      k_steps
      refine wpC_args_nil ⟨by k_in, ?_⟩
      k_dflt (refine' c_rgo (outer := []) (base := h₀) (O := octs (tx ts)) ?k1 ?k2 ?k3 ?k4 ?k5 ?kK ?kp ?kd ?ku ?_; (case k1 => k_asm); (case k2 => k_asm); (case k3 => k_asm); (case k4 => k_asm); (case k5 => k_asm); (case kK => first | exact rfl | assumption); (case kp => exact ⟨hL.trans (List.append_assoc _ _ _), hD1⟩); (case kd => ktr_room); (case ku => ktr_units))
      intro tb b1 b2 h8 tk8 F8 N8
      rw [good_back hb] at N8
      walk_at "mine:c_s"
      refine wpC_of (ne_tup N8 (.head _) (.tail _ hT) rfl eq_go (by ke_room) ?_)
      walk_at "mine:c_s"
      refine wpC_of ?_
      refine wpAny_execs_nil ?_
      dsimp only
      refine wpC_of ?_
      refine wpAny_execs_nil ?_
      exact ⟨rfl, _, _, rfl, by k_asm, News.tl N8⟩
  · have hi0 : ¬ (i : Int) < 0 := by omega
    refine ⟨fun hn => absurd (hb.symm.trans hn) nofun, fun i' hi t9 h9 tk9 F9 N9 => ?_⟩
    obtain rfl : i = i' := by rw [hb] at hi; exact Option.some.inj hi
    refine wpC_of ?_
    k_steps
    refine wpC_of (ne_same_int ?_)
    walk_at "mine:c_s"
    refine wpC_of ?_
    refine wpAny_execs_nil ?_
    dsimp only
    refine wpC_execs_cons ?_
    refine wpC_If ?_
    refine wpC_isTrue_and ?_
    refine wpC_of ?_
    k_steps

    refine wpC_of ?_
    refine wpAny_execs_nil ?_
    dsimp only
    refine wpC_of ?_
    refine wpAny_execs_nil ?_
    exact ⟨rfl, _, _, rfl, by k_asm, by k_asm⟩

theorem law_10 {w : World} {mean : ExcName → Option Value} {mg mb : PySem.Str → Option Value} {h₀ : Heap} {L a : Addr} {cd : Value} {s : Shared} {Q : Flow → Shared → Prop} {E : Value → Shared → Prop}  {x y : PySem.Str} {cv : Value} {Y OC DUE : List UInt8} {ts : List Nat} {AT : Int} {u1 u2 u3 u4 u5 u6 : Tok} {m0 : PySem.Str → Option Value} {own : List (Addr × Obj)} 
    (B : Below callerA h₀ [] h₀) (X : (hd.heap_1 w.params).In h₀) (T : Top topProg Lz mean mg mb h₀) (F : Fr h₀ L s.heap (fun z => if z = Str.ofString "due" then some (.bytes DUE.toArray u6) else if z = Str.ofString "code" then some (cv) else if z = Str.ofString "tag" then some (.str y u5) else if z = Str.ofString "word" then some (.str x u4) else if z = Str.ofString "octets" then some (.bytes OC.toArray u3) else if z = Str.ofString "at" then some (.int AT u2) else if z = Str.ofString "text" then some (.str (tx ts) u1) else m0 z)) (N : News h₀ L s.heap own) (hc : CodeAt cv Y own) (hw : Word x) (hy : Tag y) (ht : Told ts AT OC) (hts : ts.length ≤ 100) (hD : DUE = octs (y ++ Str.ofString " " ++ upS x ++ Str.ofString " ") ++ Y ++ OC ++ [13, 10])
    (hret : ∀ h' tk' m', Fr h₀ L h' m' → Q (.ret (.bool true)) { s with heap := h', toks := tk' }) : wpC (model PySem.Challenge.rw_nz0333_01.row.prog w) (callerA.deeper (envOfC dT.name dT.scope L a cd)) (execs (dT.body.drop 10) (envOfC dT.name dT.scope L a cd)) Q E s := by
  delta dT pT pickP
  dsimp only
  show wpC _ _ (execs (_ :: _) _) _ _ _
  have hOL : LB 100 OC := ht.len hts
  refine wpC_execs_cons ?_
  refine wpC_For ?_
  iterate 80 (first | (with_reducible show wpAny _ _ (pyIter _) _ _ _) | (k_unfold; (try dsimp only)) | walk1)
  refine forC_two rfl (by k_asm) (by k_asm) (.head _) (.tail _ (.tail _ (.tail _ (.head _)))) (.tail _ (.head _)) rfl rfl (by with_unfolding_all rfl) ?_ ?_ ?_
  · intro h9 tk9 F9 news9 hs9 N9
    exact law_t1 B X T F9 N9 (hs9 _ (.tail _ (.tail _ (.tail _ (.tail _ (.head _)))))) (hc.mono fun p hp => hs9 _ (.tail _ (.tail _ (.tail _ (.tail _ (.tail _ hp)))))) hw hy ht hts hD
  · intro h9 tk9 F9 news9 hs9 N9
    exact law_t2 B X T F9 N9 (hs9 _ (.tail _ (.tail _ (.head _)))) ht hts rfl
  · intro h9 tk9 F9
    dsimp only
    walk_at "mine:c_s"
    exact hret _ _ _ F9

theorem reg69 : True := by
  k_with "call builtin:str.upper" => (k_here; (refine call_upper (by with_reducible assumption) ?_); intro _ _)
  trivial
theorem law_9 {w : World} {mean : ExcName → Option Value} {mg mb : PySem.Str → Option Value} {h₀ : Heap} {L a : Addr} {cd : Value} {s : Shared} {Q : Flow → Shared → Prop} {E : Value → Shared → Prop}  {x y : PySem.Str} {cv : Value} {Y OC : List UInt8} {ts : List Nat} {AT : Int} {u1 u2 u3 u4 u5 : Tok} {m0 : PySem.Str → Option Value} {own : List (Addr × Obj)} 
    (B : Below callerA h₀ [] h₀) (X : (hd.heap_1 w.params).In h₀) (T : Top topProg Lz mean mg mb h₀) (F : Fr h₀ L s.heap (fun z => if z = Str.ofString "code" then some (cv) else if z = Str.ofString "tag" then some (.str y u5) else if z = Str.ofString "word" then some (.str x u4) else if z = Str.ofString "octets" then some (.bytes OC.toArray u3) else if z = Str.ofString "at" then some (.int AT u2) else if z = Str.ofString "text" then some (.str (tx ts) u1) else m0 z)) (N : News h₀ L s.heap own) (hc : CodeAt cv Y own) (hw : Word x) (hy : Tag y) (ht : Told ts AT OC) (hts : ts.length ≤ 100)
    (hret : ∀ h' tk' m', Fr h₀ L h' m' → Q (.ret (.bool true)) { s with heap := h', toks := tk' }) : wpC (model PySem.Challenge.rw_nz0333_01.row.prog w) (callerA.deeper (envOfC dT.name dT.scope L a cd)) (execs (dT.body.drop 9) (envOfC dT.name dT.scope L a cd)) Q E s := by
  delta dT pT pickP
  dsimp only
  show wpC _ _ (execs (_ :: _) _) _ _ _
  have hOL : LB 100 OC := ht.len hts
  have hY := hc.len
  have hyA := hy.asc
  have hxA := hw.asc
  with_reducible rename Fr _ _ _ _ => F8
  with_reducible rename News _ _ _ _ => N8
  refine joinA (x := Str.ofString "due") (fun v => ∃ t, v = .bytes (octs (y ++ Str.ofString " " ++ upS x ++ Str.ofString " ") ++ Y ++ OC ++ [13, 10]).toArray t) F8 N8 ?_ ?_
  · rintro _ h9 tk9 ⟨t9, rfl⟩ F9 N9
    exact law_10 B X T F9 N9 hc hw hy ht hts rfl hret
  · have hA := Asc.app (Asc.app (Asc.app hy.asc Asc.sp) hw.asc.up) Asc.sp
    have hA1 := hA.1
    have hA2 := hA.2
    refine wpC_of ?_
    k_steps
    refine compT_int (ns := (y ++ Str.ofString " " ++ upS x ++ Str.ofString " ").cps.toList) (fun c : Nat => (c : Int)) rfl (by omega) (by k_asm) (by k_asm) ?_ ?_
    · intro c hc u ys I oI C oC D m₂ h tk E' hC hx F' N'
      k_steps
      all_goals k_asm
    · intro ys hys D h tk F' N' o1
      have e9 := octs_ints hA1
      have e8 := octs_len (y ++ Str.ofString " " ++ upS x ++ Str.ofString " ")
      rcases hc with ⟨rfl, rfl⟩ | ⟨c, v, P, rfl, hcm, rfl, hv⟩
      · k_steps
        exact ⟨rfl, _, _, _, ⟨_, rfl⟩, rfl, by k_asm, by walk_at "mine:kn"⟩
      · rcases hv with ⟨t5, rfl, rfl⟩ | ⟨t5, rfl, rfl⟩
        · k_steps
          with_reducible rename News _ _ _ _ => N5
          refine rc_ls1 (b := true) N5 (.tail _ (.tail _ (.tail _ hcm))) (.head _) (SeqAt.EqAt.int_int 7 t5 7 _) (by ke_room) ?_
          k_steps
          exact ⟨rfl, _, _, _, ⟨_, rfl⟩, rfl, by k_asm, by walk_at "mine:kn"⟩
        · k_steps
          with_reducible rename News _ _ _ _ => N5
          refine rc_ls1 (b := false) N5 (.tail _ (.tail _ (.tail _ hcm))) (.head _) (eqAt_bytes_int _ t5 7 _) (by ke_room) ?_
          k_steps
          exact ⟨rfl, _, _, _, ⟨_, rfl⟩, rfl, by k_asm, by walk_at "mine:kn"⟩

theorem law_8 {w : World} {mean : ExcName → Option Value} {mg mb : PySem.Str → Option Value} {h₀ : Heap} {L a : Addr} {cd : Value} {s : Shared} {Q : Flow → Shared → Prop} {E : Value → Shared → Prop}  {x y : PySem.Str} {OC : List UInt8} {ts : List Nat} {AT : Int} {u1 u2 u3 u4 u5 : Tok} {m0 : PySem.Str → Option Value} {oc : Obj} {src c : Addr} {vs : List Value} {ns : List Int} {n2 : Nat} {t : Tok} {k : Int}
    (B : Below callerA h₀ [] h₀) (X : (hd.heap_1 w.params).In h₀) (T : Top topProg Lz mean mg mb h₀) (F : Fr h₀ L s.heap (fun z => if z = Str.ofString "tag" then some (.str y u5) else if z = Str.ofString "word" then some (.str x u4) else if z = Str.ofString "octets" then some (.bytes OC.toArray u3) else if z = Str.ofString "at" then some (.int AT u2) else if z = Str.ofString "text" then some (.str (tx ts) u1) else m0 z)) (N : News h₀ L s.heap [(src, { cls := .type "list", data := .seq [.ref c, .int k t].toArray 0 }), (c, { cls := .type "list", data := .seq vs.toArray n2 }), (L + 1, oc)]) (ho : oc.data = .cell (some (.ref src))) (hi : IntsAre vs ns) (hl : 1 ≤ ns.length ∧ ns.length ≤ 100) (hs : @LT.lt Nat instLTNat c src ∧ @LT.lt Nat instLTNat (L + 1) src) (hk : 0 ≤ k ∧ k ≤ 20) (hw : Word x) (hy : Tag y) (ht : Told ts AT OC) (hts : ts.length ≤ 100)
    (hret : ∀ h' tk' m', Fr h₀ L h' m' → Q (.ret (.bool true)) { s with heap := h', toks := tk' }) : wpC (model PySem.Challenge.rw_nz0333_01.row.prog w) (callerA.deeper (envOfC dT.name dT.scope L a cd)) (execs (dT.body.drop 8) (envOfC dT.name dT.scope L a cd)) Q E s := by
  delta dT pT pickP
  dsimp only
  show wpC _ _ (execs (_ :: _) _) _ _ _
  have hoff : ∀ p ∈ [(L + 1, oc)], p.1 ≠ src := fun p hp => by rw [List.mem_singleton.mp hp]; exact Nat.ne_of_lt hs.2
  have hs1 := hs.1
  obtain ⟨hk0, hk1⟩ := hk
  with_reducible rename Fr _ _ _ _ => F8
  refine joinO (x := Str.ofString "code") (fun v own => ∃ Y, CodeAt v Y own) F8 ?_ ?_
  · rintro v own h9 tk9 ⟨Y, hc⟩ F9 N9
    exact law_9 B X T F9 N9 hc hw hy ht hts hret
  · rcases draw3 ns k with en | en | en
    all_goals refine wpC_of ?_
    all_goals k_steps
    all_goals with_reducible rename News _ _ _ _ => N9
    · refine ⟨rfl, _, _, _, _, ?_, rfl, by k_asm, N9⟩
      exact ⟨_, .inl ⟨rfl, rfl⟩⟩
    · refine ⟨rfl, _, _, _, _, ?_, rfl, by k_asm, N9⟩
      exact ⟨_, .inr ⟨_, _, _, rfl, .tail _ (.tail _ (.tail _ (.tail _ (.head _)))), rfl, .inl ⟨_, rfl, rfl⟩⟩⟩
    · refine ⟨rfl, _, _, _, _, ?_, rfl, by k_asm, N9⟩
      exact ⟨_, .inr ⟨_, _, _, rfl, .tail _ (.tail _ (.tail _ (.head _))), rfl, .inr ⟨_, rfl, rfl⟩⟩⟩

theorem law_7 {w : World} {mean : ExcName → Option Value} {mg mb : PySem.Str → Option Value} {h₀ : Heap} {L a : Addr} {cd : Value} {s : Shared} {Q : Flow → Shared → Prop} {E : Value → Shared → Prop}  {x : PySem.Str} {OC : List UInt8} {ts : List Nat} {AT : Int} {u1 u2 u3 u4 : Tok} {m0 : PySem.Str → Option Value} {oc : Obj} {src c : Addr} {vs : List Value} {ns : List Int} {n2 : Nat} {t : Tok} {k : Int}
    (B : Below callerA h₀ [] h₀) (X : (hd.heap_1 w.params).In h₀) (T : Top topProg Lz mean mg mb h₀) (F : Fr h₀ L s.heap (fun z => if z = Str.ofString "word" then some (.str x u4) else if z = Str.ofString "octets" then some (.bytes OC.toArray u3) else if z = Str.ofString "at" then some (.int AT u2) else if z = Str.ofString "text" then some (.str (tx ts) u1) else m0 z)) (N : News h₀ L s.heap [(src, { cls := .type "list", data := .seq [.ref c, .int k t].toArray 0 }), (c, { cls := .type "list", data := .seq vs.toArray n2 }), (L + 1, oc)]) (ho : oc.data = .cell (some (.ref src))) (hi : IntsAre vs ns) (hl : 1 ≤ ns.length ∧ ns.length ≤ 100) (hs : @LT.lt Nat instLTNat c src ∧ @LT.lt Nat instLTNat (L + 1) src) (hk : 0 ≤ k ∧ k ≤ 19) (hw : Word x) (ht : Told ts AT OC) (hts : ts.length ≤ 100)
    (hret : ∀ h' tk' m', Fr h₀ L h' m' → Q (.ret (.bool true)) { s with heap := h', toks := tk' }) : wpC (model PySem.Challenge.rw_nz0333_01.row.prog w) (callerA.deeper (envOfC dT.name dT.scope L a cd)) (execs (dT.body.drop 7) (envOfC dT.name dT.scope L a cd)) Q E s := by
  delta dT pT pickP
  dsimp only
  show wpC _ _ (execs (_ :: _) _) _ _ _
  have hoff : ∀ p ∈ [(L + 1, oc)], p.1 ≠ src := fun p hp => by rw [List.mem_singleton.mp hp]; exact Nat.ne_of_lt hs.2
  have hs1 := hs.1
  obtain ⟨hk0, hk1⟩ := hk
  with_reducible rename Fr _ _ _ _ => F8
  refine joinO (x := Str.ofString "tag") (fun v own => (∃ y t, v = .str y t ∧ Tag y) ∧ ∃ t, own = [(src, { cls := .type "list", data := .seq [.ref c, .int (k + 1) t].toArray 0 }), (c, { cls := .type "list", data := .seq vs.toArray n2 }), (L + 1, oc)]) F8 ?_ ?_
  · rintro v own h9 tk9 ⟨⟨y, t9, rfl, hy⟩, t8, rfl⟩ F9 N9
    exact law_8 B X T F9 N9 ho hi hl hs ⟨by omega, by omega⟩ hw hy ht hts hret
  · rcases draw2 ns k with en | en
    all_goals refine wpC_of ?_
    all_goals k_steps
    all_goals with_reducible rename News _ _ _ _ => N9
    · refine ⟨rfl, _, _, _, _, ?_, rfl, by k_asm, News.pick1 N9⟩
      exact ⟨⟨_, _, rfl, .inl rfl⟩, _, rfl⟩
    · refine ⟨rfl, _, _, _, _, ?_, rfl, by k_asm, News.pick1 N9⟩
      exact ⟨⟨_, _, rfl, .inr rfl⟩, _, rfl⟩

theorem law_6 {w : World} {mean : ExcName → Option Value} {mg mb : PySem.Str → Option Value} {h₀ : Heap} {L a : Addr} {cd : Value} {s : Shared} {Q : Flow → Shared → Prop} {E : Value → Shared → Prop}  {OC : List UInt8} {ts : List Nat} {AT : Int} {u1 u2 u3 : Tok} {m0 : PySem.Str → Option Value} {oc : Obj} {src c : Addr} {vs : List Value} {ns : List Int} {n2 : Nat} {t : Tok} {k : Int}
    (B : Below callerA h₀ [] h₀) (X : (hd.heap_1 w.params).In h₀) (T : Top topProg Lz mean mg mb h₀) (F : Fr h₀ L s.heap (fun z => if z = Str.ofString "octets" then some (.bytes OC.toArray u3) else if z = Str.ofString "at" then some (.int AT u2) else if z = Str.ofString "text" then some (.str (tx ts) u1) else m0 z)) (N : News h₀ L s.heap [(src, { cls := .type "list", data := .seq [.ref c, .int k t].toArray 0 }), (c, { cls := .type "list", data := .seq vs.toArray n2 }), (L + 1, oc)]) (ho : oc.data = .cell (some (.ref src))) (hi : IntsAre vs ns) (hl : 1 ≤ ns.length ∧ ns.length ≤ 100) (hs : @LT.lt Nat instLTNat c src ∧ @LT.lt Nat instLTNat (L + 1) src) (hk : 0 ≤ k ∧ k ≤ 18) (ht : Told ts AT OC) (hts : ts.length ≤ 100)
    (hret : ∀ h' tk' m', Fr h₀ L h' m' → Q (.ret (.bool true)) { s with heap := h', toks := tk' }) : wpC (model PySem.Challenge.rw_nz0333_01.row.prog w) (callerA.deeper (envOfC dT.name dT.scope L a cd)) (execs (dT.body.drop 6) (envOfC dT.name dT.scope L a cd)) Q E s := by
  delta dT pT pickP
  dsimp only
  show wpC _ _ (execs (_ :: _) _) _ _ _
  have hoff : ∀ p ∈ [(L + 1, oc)], p.1 ≠ src := fun p hp => by rw [List.mem_singleton.mp hp]; exact Nat.ne_of_lt hs.2
  have hs1 := hs.1
  obtain ⟨hk0, hk1⟩ := hk
  with_reducible rename Fr _ _ _ _ => F8
  refine joinO (x := Str.ofString "word") (fun v own => (∃ x t, v = .str x t ∧ Word x) ∧ ∃ t, own = [(src, { cls := .type "list", data := .seq [.ref c, .int (k + 1) t].toArray 0 }), (c, { cls := .type "list", data := .seq vs.toArray n2 }), (L + 1, oc)]) F8 ?_ ?_
  · rintro v own h9 tk9 ⟨⟨x, t9, rfl, hw⟩, t8, rfl⟩ F9 N9
    exact law_7 B X T F9 N9 ho hi hl hs ⟨by omega, by omega⟩ hw ht hts hret
  · rcases draw3 ns k with en | en | en
    all_goals refine wpC_of ?_
    all_goals k_steps
    all_goals with_reducible rename News _ _ _ _ => N9
    · refine ⟨rfl, _, _, _, _, ?_, rfl, by k_asm, News.pick1 N9⟩
      exact ⟨⟨_, _, rfl, .inl rfl⟩, _, rfl⟩
    · refine ⟨rfl, _, _, _, _, ?_, rfl, by k_asm, News.pick1 N9⟩
      exact ⟨⟨_, _, rfl, .inr (.inl rfl)⟩, _, rfl⟩
    · refine ⟨rfl, _, _, _, _, ?_, rfl, by k_asm, News.pick1 N9⟩
      exact ⟨⟨_, _, rfl, .inr (.inr rfl)⟩, _, rfl⟩

theorem law_5 {w : World} {mean : ExcName → Option Value} {mg mb : PySem.Str → Option Value} {h₀ : Heap} {L a : Addr} {cd : Value} {s : Shared} {Q : Flow → Shared → Prop} {E : Value → Shared → Prop}  {OC : List UInt8} {ts : List Nat} {AT : Int} {u1 u2 u3 : Tok} {m0 : PySem.Str → Option Value} {oc : Obj} {src c : Addr} {vs : List Value} {ns : List Int} {n2 : Nat} {t : Tok} {k : Int}
    (B : Below callerA h₀ [] h₀) (X : (hd.heap_1 w.params).In h₀) (T : Top topProg Lz mean mg mb h₀) (F : Fr h₀ L s.heap (fun z => if z = Str.ofString "octets" then some (.bytes OC.toArray u3) else if z = Str.ofString "at" then some (.int AT u2) else if z = Str.ofString "text" then some (.str (tx ts) u1) else m0 z)) (N : News h₀ L s.heap [(src, { cls := .type "list", data := .seq [.ref c, .int k t].toArray 0 }), (c, { cls := .type "list", data := .seq vs.toArray n2 }), (L + 1, oc)]) (ho : oc.data = .cell (some (.ref src))) (hi : IntsAre vs ns) (hl : 1 ≤ ns.length ∧ ns.length ≤ 100) (hs : @LT.lt Nat instLTNat c src ∧ @LT.lt Nat instLTNat (L + 1) src) (hk : 0 ≤ k ∧ k ≤ 18) (ht : Told ts AT OC) (hts : ts.length ≤ 100)
    (hret : ∀ h' tk' m', Fr h₀ L h' m' → Q (.ret (.bool true)) { s with heap := h', toks := tk' }) : wpC (model PySem.Challenge.rw_nz0333_01.row.prog w) (callerA.deeper (envOfC dT.name dT.scope L a cd)) (execs (dT.body.drop 5) (envOfC dT.name dT.scope L a cd)) Q E s := by
  delta dT pT pickP
  dsimp only
  show wpC _ _ (execs (_ :: _) _) _ _ _
  have hoff : ∀ p ∈ [(L + 1, oc)], p.1 ≠ src := fun p hp => by rw [List.mem_singleton.mp hp]; exact Nat.ne_of_lt hs.2
  have hs1 := hs.1
  with_reducible rename Fr _ _ _ _ => F8
  with_reducible rename News _ _ _ _ => N8
  refine joinS F8 N8 ?_ ?_
  · intro h9 tk9 F9 N9
    exact law_6 B X T F9 N9 ho hi hl hs hk ht hts hret
  · refine wpC_If ?_
    refine wpC_isTrue_Compare1 ?_
    refine wpC_Call ?_
    k_steps
    refine wpC_callWith_K (K := hd.heap_1 w.params) (by k_is) ?_
    refine wpC_args_cons ?_
    refine wpC_of ?_
    k_steps
    refine wpC_args_nil ⟨by k_in, ?_⟩
    k_dflt (refine' c_lcheck (outer := []) (base := h₀) ?k1 ?k2 ?k3 ?k4 ?k5 ?kK ?kp ?kd ?ku ?_; (case k1 => k_asm); (case k2 => k_asm); (case k3 => k_asm); (case k4 => k_asm); (case k5 => k_asm); (case kK => first | exact rfl | assumption); (case kp => omega); (case kd => ktr_room); (case ku => ktr_units))
    rcases ht with ⟨hb, rfl, rfl⟩ | ⟨i, hb, rfl, rfl⟩
    · refine ⟨fun _ t9 h9 tk9 F9 N9 => ?_, fun i hi => absurd (hb.symm.trans hi) nofun⟩
      refine wpC_of ?_
      k_steps
      refine wpC_of (ne_same rfl ?_)
      walk_at "mine:c_s"
      refine wpC_of ?_
      refine wpAny_execs_nil ?_
      exact ⟨rfl, _, _, rfl, by k_asm, by k_asm⟩
    · have hi0 : ¬ (i : Int) < 0 := by omega
      refine ⟨fun hn => absurd (hb.symm.trans hn) nofun, fun i' hi t9 h9 tk9 F9 N9 => ?_⟩
      obtain rfl : i = i' := by rw [hb] at hi; exact Option.some.inj hi
      refine wpC_of ?_
      k_steps
      refine wpC_of (ne_same_int ?_)
      walk_at "mine:c_s"
      refine wpC_of ?_
      refine wpAny_execs_nil ?_
      exact ⟨rfl, _, _, rfl, by k_asm, by k_asm⟩

theorem law_3 {w : World} {mean : ExcName → Option Value} {mg mb : PySem.Str → Option Value} {h₀ : Heap} {L a : Addr} {cd : Value} {s : Shared} {Q : Flow → Shared → Prop} {E : Value → Shared → Prop}  {ts : List Nat} {u1 : Tok} {m0 : PySem.Str → Option Value} {oc : Obj} {src c : Addr} {vs : List Value} {ns : List Int} {n2 : Nat} {t : Tok} {k : Int}
    (B : Below callerA h₀ [] h₀) (X : (hd.heap_1 w.params).In h₀) (T : Top topProg Lz mean mg mb h₀) (F : Fr h₀ L s.heap (fun z => if z = Str.ofString "text" then some (.str (tx ts) u1) else m0 z)) (N : News h₀ L s.heap [(src, { cls := .type "list", data := .seq [.ref c, .int k t].toArray 0 }), (c, { cls := .type "list", data := .seq vs.toArray n2 }), (L + 1, oc)]) (ho : oc.data = .cell (some (.ref src))) (hi : IntsAre vs ns) (hl : 1 ≤ ns.length ∧ ns.length ≤ 100) (hs : @LT.lt Nat instLTNat c src ∧ @LT.lt Nat instLTNat (L + 1) src) (hk : 0 ≤ k ∧ k ≤ 18) (hts : ts.length ≤ 100)
    (hret : ∀ h' tk' m', Fr h₀ L h' m' → Q (.ret (.bool true)) { s with heap := h', toks := tk' }) : wpC (model PySem.Challenge.rw_nz0333_01.row.prog w) (callerA.deeper (envOfC dT.name dT.scope L a cd)) (execs (dT.body.drop 3) (envOfC dT.name dT.scope L a cd)) Q E s := by
  delta dT pT pickP
  dsimp only
  show wpC _ _ (execs (_ :: _) _) _ _ _
  have hoff : ∀ p ∈ [(L + 1, oc)], p.1 ≠ src := fun p hp => by rw [List.mem_singleton.mp hp]; exact Nat.ne_of_lt hs.2
  have hs1 := hs.1
  refine wpC_execs_cons ?_
  refine wpC_of ?_
  k_steps
  rcases hb : bad ts with _ | i
  · have er : refused ts = -1 := by unfold refused; rw [hb]
    with_reducible rename Fr _ _ _ _ => F7
    rw [er] at F7
    refine wpC_execs_cons ?_
    refine wpC_of ?_
    k_steps
    refine compT_int (ns := ts) (fun c : Nat => (c : Int)) rfl (by omega) (by k_asm) (by k_asm) ?_ ?_
    · intro c hc u ys I oI C oC D m₂ h tk E' hC hx F' N'
      k_steps
      all_goals k_asm
    · intro ys hys D h tk F' N' o1
      have e9 := good_ints hb
      have e8 : (octs (tx ts)).length = ts.length := octs_len (tx ts)
      k_steps
      with_reducible rename News _ _ _ _ => N9
      exact law_5 B X T (by k_asm) (News.tl N9) ho hi hl hs hk (.inl ⟨hb, rfl, rfl⟩) hts hret
  · have er : refused ts = (i : Int) := ref_of hb
    with_reducible rename Fr _ _ _ _ => F7
    rw [er] at F7
    have hi0 : ¬ (i : Int) < 0 := by omega
    refine wpC_execs_cons ?_
    refine wpC_of ?_
    k_steps
    with_reducible rename News _ _ _ _ => N9
    exact law_5 B X T (by k_asm) N9 ho hi hl hs hk (.inr ⟨i, hb, rfl, rfl⟩) hts hret

theorem law_rest {w : World} {mean : ExcName → Option Value} {mg mb : PySem.Str → Option Value} {h₀ : Heap} {L a : Addr} {cd : Value} {s : Shared} {Q : Flow → Shared → Prop} {E : Value → Shared → Prop}  {oc : Obj} {src c : Addr} {m0 : PySem.Str → Option Value} {vs : List Value} {ns : List Int} {n2 : Nat} {t : Tok}
    (B : Below callerA h₀ [] h₀) (X : (hd.heap_1 w.params).In h₀) (T : Top topProg Lz mean mg mb h₀) (F : Fr h₀ L s.heap m0) (N : News h₀ L s.heap [(src, { cls := .type "list", data := .seq [.ref c, .int 0 t].toArray 0 }), (c, { cls := .type "list", data := .seq vs.toArray n2 }), (L + 1, oc)])
    (ho : oc.data = .cell (some (.ref src))) (hi : IntsAre vs ns) (hl : 1 ≤ ns.length ∧ ns.length ≤ 100) (hs : @LT.lt Nat instLTNat c src ∧ @LT.lt Nat instLTNat (L + 1) src)
    (hret : ∀ h' tk' m', Fr h₀ L h' m' → Q (.ret (.bool true)) { s with heap := h', toks := tk' }) : wpC (model PySem.Challenge.rw_nz0333_01.row.prog w) (callerA.deeper (envOfC dT.name dT.scope L a cd)) (execs (dT.body.drop 2) (envOfC dT.name dT.scope L a cd)) Q E s := by
  delta dT pT pickP
  dsimp only
  show wpC _ _ (execs (_ :: _) _) _ _ _
  have hoff : ∀ p ∈ [(L + 1, oc)], p.1 ≠ src := fun p hp => by rw [List.mem_singleton.mp hp]; exact Nat.ne_of_lt hs.2
  have hs1 := hs.1
  obtain ⟨n, hn13, en⟩ := drawV_nat ns 0 (limit := 13) (by decide)
  refine wpC_execs_cons ?_
  refine wpC_of ?_
  k_steps
  rw [en] at *
  refine ⟨n, _, _, src_range rfl (by assumption) (by omega), by rw [sizeLine_eq]; omega, by k_asm, by k_asm, fun g => ?_⟩
  refine rest_led (fun k t => [(src, { cls := .type "list", data := .seq [.ref c, .int k t].toArray 0 }), (c, { cls := .type "list", data := .seq vs.toArray n2 }), (L + 1, oc)]) 1 (fun k t k' t' I C D o => o) ?_ ?_ n 0 [] _ (Nat.zero_add _) rfl (fun y hy => nomatch hy)
  · intro j t ys I oI C oC D m₂ h tk E' hj hC F9 N9 off
    have o1 := off.1
    have hoff9 : ∀ p ∈ [(I, oI), (C, oC), (D, LCg.lst ys), (L + 1, oc)], p.1 ≠ src := fun p hp => by
      rcases List.mem_cons.mp hp with rfl | hp
      · exact Ne.symm o1.1
      · rcases List.mem_cons.mp hp with rfl | hp
        · exact Ne.symm o1.2.1
        · rcases List.mem_cons.mp hp with rfl | hp
          · exact Ne.symm o1.2.2
          · rw [List.mem_singleton.mp hp]; exact Nat.ne_of_lt hs.2
    replace N9 := News.draw N9
    obtain ⟨n2', hn15, en2⟩ := drawV_nat ns (1 + (j : Int)) (limit := 15) (by decide)
    k_steps
    with_reducible rename News _ _ _ _ => N8
    exact ⟨sign_at (by omega) _, _, _, _, _, rfl, by k_asm, N8, draw_mem⟩
  · intro ys t hl9 hy D h tk F9 N9 o9
    obtain ⟨ts, et, hS⟩ := signs_are hy
    have hz9 : ts.length ≤ 12 := by omega
    k_steps
    with_reducible rename News _ _ _ _ => N8
    exact law_3 B X T (by k_asm) (News.tl N8) ho hi hl hs ⟨by omega, by omega⟩ (by omega) hret

theorem News.pick2 {h₀ h : Heap} {L : Addr} {p q r r2 u : Addr × Obj} (N : News h₀ L h [p, q, r, r2, u]) : News h₀ L h [p, q, u] := fun z hz => by
  rcases List.mem_cons.mp hz with rfl | hz
  · exact N _ (.head _)
  · rcases List.mem_cons.mp hz with rfl | hz
    · exact N _ (.tail _ (.head _))
    · rw [List.mem_singleton.mp hz]; exact N _ (.tail _ (.tail _ (.tail _ (.tail _ (.head _)))))
theorem law_body {w : World} {mean : ExcName → Option Value} {mg mb : PySem.Str → Option Value} {h₀ : Heap} {L a script : Addr} {cd : Value} {s : Shared} {Q : Flow → Shared → Prop} {E : Value → Shared → Prop} {vs : List Value} {ns : List Int} {oc : Obj}
    (B : Below callerA h₀ [] h₀) (X : (hd.heap_1 w.params).In h₀) (T : Top topProg Lz mean mg mb h₀)
    (F : Fr h₀ L s.heap (bindL (envOfC dT.name dT.scope L a cd).kindOf [(Str.ofString "script", .ref script)] fun _ => none)) (N : News h₀ L s.heap [(L + 1, oc)])
    (ho : oc.data = .cell (bindC (envOfC dT.name dT.scope L a cd).kindOf [(Str.ofString "script", .ref script)] (fun _ => none) (Str.ofString "source")))
    (hl : h₀.IsList script vs.toArray) (hi : IntsAre vs ns) (hn : ns.length ≤ 63)
    (hret : ∀ h' tk' m', Fr h₀ L h' m' → Q (.ret (.bool true)) { s with heap := h', toks := tk' }) :
    wpC (model PySem.Challenge.rw_nz0333_01.row.prog w) (callerA.deeper (envOfC dT.name dT.scope L a cd)) (execs dT.body (envOfC dT.name dT.scope L a cd)) Q E s := by
  delta dT pT pickP at *
  dsimp only at *
  refine wpC_execs_cons ?_
  refine wpC_of ?_
  k_steps
  refine wpC_execs_cons ?_
  refine wpC_of ?_
  k_steps
  · with_reducible rename News _ _ _ _ => N9
    rename _ < _ ∧ _ < _ ∧ L + 1 < _ => l9
    exact law_rest B X T (by k_asm) (News.pick1 N9) (by assumption) (ns := (List.map (fun k' => k') (List.take 60 ns))) (by assumption) ⟨by omega, by simp; omega⟩ ⟨l9.1, l9.2.2⟩ (fun h' tk' m' F' => hret h' tk' m' F')
  · with_reducible rename News _ _ _ _ => N9
    rename _ < _ ∧ _ < _ ∧ _ < _ ∧ L + 1 < _ => l9
    exact law_rest B X T (by k_asm) (News.pick2 N9) (by assumption) (ns := [0]) (vs := [_]) (by first | exact .cons .nil | exact ⟨⟨_, rfl⟩, trivial⟩ | (constructor <;> constructor)) ⟨by decide, by decide⟩ ⟨l9.1, l9.2.2.2⟩ (fun h' tk' m' F' => hret h' tk' m' F')

theorem top_plain {p : Program} {loose : List PySem.Str} {mean : ExcName → Option Value} {mg mb : PySem.Str → Option Value} {h : Heap} (T : Top p loose mean mg mb h) :
    Top topProg (loose ++ (recsOf p).map (·.name) ++ (litsOf p).map (·.1) ++ (clssOf p loose).map (·.name)) mean mg mb h where
  g := T.g
  b := T.b
  nolimit := T.nolimit
  nodigits := T.nodigits
  fn := fun d hd => absurd (show d ∈ ([] : List DefRec) from hd) List.not_mem_nil
  own := fun o ho => absurd (show o ∈ ([] : List OwnSpec) from ho) List.not_mem_nil
  const := fun x d e => by cases (show (none : Option PyData) = some d from e)
  free := fun x h1 h2 _ _ _ => T.free x h1 (fun q => h2 (List.mem_append_left _ (List.mem_append_left _ (List.mem_append_left _ q))))
    (fun q => h2 (List.mem_append_left _ (List.mem_append_left _ (List.mem_append_right _ q)))) (fun q => h2 (List.mem_append_left _ (List.mem_append_right _ q))) fun q => h2 (List.mem_append_right _ q)
  builtins := T.builtins
  tab := fun d hd => absurd (show d ∈ ([] : List DefRec) from hd) List.not_mem_nil
  bmain := T.bmain
  seer := fun e => absurd (show false = true from e) Bool.false_ne_true
theorem law_good {cl : PySem.Str → Option Addr} {mean : ExcName → Option Value} {xs : List Int} {s₁ s' : Shared} (hk : ∀ b o, s₁.heap.get? b = some o → s'.heap.get? b = some o) (hos : s'.os = s₁.os) (hg : s'.gens = #[]) :
    GoodWG PySem.Challenge.rw_nz0333_01.row.claim cl mean [ofPy (.list (xs.map .int))] s₁ (.ok (.ret (.bool true))) s' := by
  refine ⟨.inl ⟨_, ofPy (.bool true), [], rfl, fun _ => rfl, ?r, ?p, ?u⟩, .of_keep hk, hos, .of_eq hg⟩
  case r => exact ReadsW.bool true
  case p => first | kernel_rfl | (with_unfolding_all rfl) | decide +kernel | skip
  case u => first | (intro h; exact absurd h (by decide)) | (intro h; simp) | skip
theorem law_walk {d : DefRec} {kwd : List (PySem.Str × PySem.Expr)} (hdef : defOf hd.view_1 PySem.Challenge.rw_nz0333_01.row.name = some (d, kwd)) :
    WalkO hd.view_1 looseT (XL hd.view_1 []) hookT.says PySem.Challenge.rw_nz0333_01.row.toRowW d kwd (fun f vs => guardC (PySem.call f vs)) := by
  rw [law_def] at hdef
  obtain rfl : dT = d := congrArg Prod.fst (Option.some.inj hdef)
  obtain rfl : pT.2 = kwd := congrArg Prod.snd (Option.some.inj hdef)
  clear hdef
  delta dT pT pickP
  dsimp only
  intro w s₀ s₁ mg mb G Y fa o pm cd doc dV kV ho hd' hcd hD hmg hg args vals as hpre hlay hrd hwl hlo
  have KX := kIn_of Y
  have X := (Ground.X G).1
  refine Ground.open G ?_
  intro T B D TE TW
  wrow_args hpre hlay hrd hwl hlo
  refine guardC_any ?_ (law_good (fun _ _ e => e) rfl hg)
  refine wpC_call ?_
  have he := Dflts.none hD rfl
  subst he
  have he := Dflts.noKw hD
  subst he
  refine codeC_cellsN (by decide) ho (fd_plain hd') (Top.nolimit T) hcd rfl (kinds_of (by kinds_ok)) (by decide) fun h₁ tk₁ cells F N0 X0 => ?_
  obtain ⟨oc, hE, d1⟩ := CellsAre.one X0
  subst hE
  refine law_body (below_caller s₁.heap) KX (top_plain T) F N0 d1 (by assumption) (by assumption) (by omega) (fun h' tk' m' F' => ?_)
  exact law_good F'.keep rfl hg

abbrev lw : OpenLaw := PySem.Challenge.rw_nz0333_01
theorem ck1 : namesResolve lw.row.prog = true := by kernel_rfl
theorem ck2 : (lw.row.prog.boundNames.all fun n => !worldNames.contains n) = true := by kernel_rfl
theorem ck3 : noRoadLSs { strict := !(importedModules lw.row.prog.main.body).all cThrough.contains, foot := none, bare := (["vars", "dir", "locals"] : List PySem.Str).filter (readsOut lw.row.prog lw.row.prog.main.body) } lw.row.prog.main.body = true := by kernel_rfl
theorem ck4 : (namesMeet lw.row.prog lw.row.prog.main.body fun _ n => attrL n) = true := by kernel_rfl
theorem cl_row : lw.row.wellSaid = true := by
  delta OpenRow.wellSaid OpenRow.partSaid looksOpen
  repeat' (with_reducible refine look_both ?_ ?_)
  all_goals first | (with_reducible exact ck1) | (with_reducible exact ck2) | (with_reducible exact ck3) | (with_reducible exact ck4) | kernel_rfl
theorem ck5 : lw.footing.all footLine = true := by kernel_rfl
theorem ck6 : noClassBlock lw.prog lw.footing = true := by kernel_rfl
theorem ck7 : noRoadLSs { strict := true, foot := some lw.bound', writes := lw.writes, may := lw.may } lw.footing = true := by kernel_rfl
theorem ck8 : (lw.bound'.all fun n => !builtinNamed n || lw.about == [n] || !lw.reads n) = true := by kernel_rfl
theorem ck9 : (lw.own.all fun n => !builtinNamed n) = true := by kernel_rfl
theorem ck10 : (namesMeet lw.prog lw.above fun _ n => !lw.own.contains n) = true := by kernel_rfl
theorem ck11 : (namesMeet lw.prog lw.footing fun sc n => sc.kind == .module || sc.names.lookup n != some .globalExplicit) = true := by kernel_rfl
theorem cl_said : lw.wellSaid = true := by
  delta OpenLaw.wellSaid
  repeat' (with_reducible refine look_both ?_ ?_)
  all_goals first | (with_reducible exact cl_row) | (with_reducible exact ck5) | (with_reducible exact ck6) | (with_reducible exact ck7) | (with_reducible exact ck8) | (with_reducible exact ck9) | (with_reducible exact ck10) | (with_reducible exact ck11) | kernel_rfl

theorem cl_left : LeftO PySem.Challenge.rw_nz0333_01.row.prog hd.view_1 looseT xtT hookT.obs hookT.val 10214 := top_left
theorem cl_def : ∃ d kwd, defOf hd.view_1 PySem.Challenge.rw_nz0333_01.row.name = some (d, kwd) ∧ PySem.Challenge.rw_nz0333_01.row.prog.theDef PySem.Challenge.rw_nz0333_01.row.name = some (d.params, d.body, d.scope) ∧ kwWritten? d.params.kwonlyargs d.params.kw_defaults = some kwd := ⟨dT, pT.2, law_def, by kernel_rfl, by kernel_rfl⟩
theorem cl_ok : (chainsOk hd.view_1 && opensWell PySem.Challenge.rw_nz0333_01.row.prog && (frees PySem.Challenge.rw_nz0333_01.row.toRowW && PySem.Challenge.rw_nz0333_01.row.within.isEmpty)) = true := by first | kernel_rfl | decide +kernel
theorem cl_bare : PySem.Challenge.rw_nz0333_01.row.prog.bare := ⟨rfl, rfl, rfl, rfl, rfl, by first | kernel_rfl | decide +kernel⟩
theorem cl_wr : (!PySem.Challenge.rw_nz0333_01.row.writes || PySem.Challenge.rw_nz0333_01.row.records.isEmpty) = true := by first | kernel_rfl | decide +kernel
theorem cl_wit : PySem.Challenge.rw_nz0333_01.row.toRowW.promised := by w_witness2
theorem claim : PySem.Challenge.rw_nz0333_01.Holds := by
  obtain ⟨d, kwd, h1, h2, h3⟩ := cl_def
  refine holds_law cl_said fun said => ?_
  exact head_open cl_left hookT.of hookT.keeps (fun s e => xl_of s (Bool.and_eq_true_iff.mp e).left) XL.keeps h1 h2 h3 (fun s e => recFacts_of (Bool.and_eq_true_iff.mp e).right) cl_wr said cl_ok cl_bare cl_wit (law_walk h1)

end Mine
theorem PySem.Challenge.cw_nz0333_01_holds : PySem.Challenge.rw_nz0333_01.Holds := by
  exact Mine.claim
