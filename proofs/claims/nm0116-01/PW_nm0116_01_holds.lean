import PyProof.Rows.All
import Wide.All
import OpenK.AllK
import Wide.FinOn
import KE.KTryDeep
import PySem.Challenge.RW_nm0116_01
set_option Elab.async false
local macro_rules | `(tactic| walk_at $s:str) => `(tactic| k_extra $(Lean.Syntax.mkStrLit ("mine " ++ s.getString)))
local macro_rules | `(tactic| k_all) => `(tactic| k_extra "mine k_all")
local macro_rules | `(tactic| k_handed) => `(tactic| k_extra "mine k_handed")
local macro_rules | `(tactic| k_ne) => `(tactic| k_extra "mine k_ne")
section
open PySem PySem.W PyProof.Rows
set_option Elab.async false
namespace Mine
/-- the codes that hold a buffer of their first argument and are no guards -/
def dirty : Code → Bool
  | .builtin id _ => Builtin.Bytes.decodersThatHold.contains id
  | _ => false
def CleanL (l : List (Code × Pos)) : Prop := ∀ x ∈ l, dirty x.1 = false
theorem CleanL.cons {l : List (Code × Pos)} {c : Code} {p : Pos} (hc : dirty c = false) (h : CleanL l) : CleanL ((c, p) :: l) := by
  intro x hx
  rcases List.mem_cons.mp hx with rfl | hx
  · exact hc
  · exact h x hx

/-- wpAny over the stacks that hold no such code -/
def wpC {α : Type} (M : Model) (A : Around) (t : Sem α) (Q : α → Shared → Prop) (E : Value → Shared → Prop) (s : Shared) : Prop :=
  ∀ Γ p, Γ.In A → dirty Γ.code = false → CleanL Γ.below → Sem.wp M Γ t (fun a _ s' => Q a s') (fun e _ s' => E e s') p s
def codeC (M : Model) (A : Around) (c : Code) (R : Result → Shared → Prop) (s : Shared) : Prop :=
  ∀ Γ p, Γ.code = c → Γ.Below A → CleanL Γ.below → wpCode M Γ R p s

section
variable {α β : Type} {M : Model} {A : Around} {E : Value → Shared → Prop} {s : Shared}
theorem wpC_of {t : Sem α} {Q : α → Shared → Prop} (h : wpAny M A t Q E s) : wpC M A t Q E s := fun Γ p hΓ _ _ => h Γ p hΓ
theorem codeC_of {c : Code} {R : Result → Shared → Prop} (h : codeAny M A c R s) : codeC M A c R s := fun Γ p hc hΓ _ => h Γ p hc hΓ
theorem wpC_mono {t : Sem α} {Q Q' : α → Shared → Prop} {E' : Value → Shared → Prop} (h : wpC M A t Q E s) (hQ : ∀ a s, Q a s → Q' a s) (hE : ∀ e s, E e s → E' e s) : wpC M A t Q' E' s :=
  fun Γ p hΓ h1 h2 => Sem.wp_mono M Γ t (fun a _ s => hQ a s) (fun e _ s => hE e s) p s (h Γ p hΓ h1 h2)
theorem wpC_bind {m : Sem α} {f : α → Sem β} {Q : β → Shared → Prop} (h : wpC M A m (fun a s' => wpC M A (f a) Q E s') E s) : wpC M A (m >>= f) Q E s := fun Γ p hΓ h1 h2 => by
  rw [Sem.wp_bind']
  exact Sem.wp_mono M Γ m (fun a p' s' h' => h' Γ p' hΓ h1 h2) (fun _ _ _ h' => h') p s (h Γ p hΓ h1 h2)
/-- the first part is walked by the library's rules -/
theorem wpC_bindA {m : Sem α} {f : α → Sem β} {Q : β → Shared → Prop} (h : wpAny M A m (fun a s' => wpC M A (f a) Q E s') E s) : wpC M A (m >>= f) Q E s := wpC_bind (wpC_of h)
theorem wpC_pure {a : α} {Q : α → Shared → Prop} (h : Q a s) : wpC M A (pure a) Q E s := wpC_of (wpAny_pure h)
theorem wpC_attempt {m : Sem α} {Q : Except Value α → Shared → Prop} (h : wpC M A m (fun a => Q (.ok a)) (fun e => Q (.error e)) s) : wpC M A m.attempt Q E s :=
  fun Γ p hΓ h1 h2 => by rw [Sem.wp_attempt]; exact h Γ p hΓ h1 h2
theorem wpC_onRaise {m : Sem α} {k : Value → Sem Unit} {Q : α → Shared → Prop} (h : wpC M A m Q (fun e s' => wpC M A (k e) (fun _ s'' => E e s'') E s') s) : wpC M A (m.onRaise k) Q E s := fun Γ p hΓ h1 h2 => by
  rw [Sem.wp_onRaise]
  exact Sem.wp_mono M Γ m (fun _ _ _ h' => h') (fun e p' s' h' => h' Γ p' hΓ h1 h2) p s (h Γ p hΓ h1 h2)
theorem wpC_holding {vs : List Value} {m : Sem α} {Q : α → Shared → Prop} (h : wpC M A m Q E s) : wpC M A (holding vs m) Q E s := fun Γ p hΓ h1 h2 => by
  rw [Sem.wp_holding]; exact h Γ p hΓ h1 h2
theorem wpC_keep {vs : List Value} {m : Sem α} {Q : α → Shared → Prop} (h : wpC M A m Q E s) : wpC M A (m.keep vs) Q E s := fun Γ p hΓ h1 h2 => by
  rw [Sem.wp_keep]; exact h Γ p hΓ h1 h2
theorem codeC_mono {c : Code} {R R' : Result → Shared → Prop} (h : codeC M A c R s) (hR : ∀ r s', R r s' → R' r s') : codeC M A c R' s :=
  fun Γ p hc hΓ h2 => wpCode_mono hR (h Γ p hc hΓ h2)

theorem wpC_runValue {c : Code} {Q : Value → Shared → Prop} (hc : codeC M A c (fun r s' => match r with | .ok (.ret v) => Q v s' | .ok _ => False | .error e => E e s') s) : wpC M A (runValue c) Q E s :=
  fun Γ p hΓ h1 h2 => by rw [Sem.wp_runValue]; exact hc _ p rfl (hΓ.enter c none p (by intro x; cases x)) (CleanL.cons h1 h2)
theorem wpC_call {f : Value} {pos : List Value} {kw : List (Str × Value)} {Q : Value → Shared → Prop}
    (hc : codeC M A (.call f ⟨pos, kw⟩) (fun r s' => match r with | .ok (.ret v) => Q v s' | .ok _ => False | .error e => E e s') s) : wpC M A (call f pos kw) Q E s := wpC_runValue hc
theorem wpC_run {c : Code} {h : Option Value} {Q : Flow → Shared → Prop}
    (hc : codeC M (A.mark h) c (fun r s' => match r with | .ok f => Q f s' | .error e => E e s') s) (hnb : h ≠ some byPass := by intro x; cases x) : wpC M A (run c h) Q E s :=
  fun Γ p hΓ h1 h2 => by rw [Sem.wp_run]; exact hc _ p rfl (hΓ.enter c h p hnb) (CleanL.cons h1 h2)

theorem codeC_of_tree {c : Code} {R : Result → Shared → Prop} (hd : dirty c = false)
    (h : wpC M (A.under c) (M.den c) (fun fin s' => match fin with | .done f => R (.ok f) s' | .again c' => c'.quiet = true ∧ codeC M A c' R s') (fun e s' => R (.error e) s') s) : codeC M A c R s :=
  fun Γ p hc hΓ h2 => by
    rw [wpCode_iff_wp, hc]
    refine Sem.wp_mono M Γ _ (fun fin p' s' h' => ?_) (fun _ _ _ h' => h') p s (h Γ p (hc ▸ hΓ.in) (hc ▸ hd) h2)
    cases fin with
    | done f => exact h'
    | again c' => exact ⟨h'.1, h'.2 (Γ.goto c') p' rfl (hΓ.goto c') h2⟩
/-- the tree is walked by the library's rules; what it goes on with is not -/
theorem codeC_of_treeA {c : Code} {R : Result → Shared → Prop}
    (h : wpAny M (A.under c) (M.den c) (fun fin s' => match fin with | .done f => R (.ok f) s' | .again c' => c'.quiet = true ∧ codeC M A c' R s') (fun e s' => R (.error e) s') s) (hd : dirty c = false := by rfl) : codeC M A c R s := codeC_of_tree hd (wpC_of h)
end

/-- a question about the stack that neither a guard nor a dirty code answers with yes -/
theorem any_clean {f : Code × Pos → Bool} (hf : ∀ c p, c.isGuard = false → dirty c = false → f (c, p) = false) : ∀ l : List (Code × Pos), guardsOf l = [] → CleanL l → l.any f = false
  | [], _, _ => rfl
  | (c, p) :: l, hg, hc => by
    rw [guardsOf_cons] at hg
    have g := List.append_eq_nil_iff.mp hg
    have hgc : c.isGuard = false := by
      cases e : c.isGuard with
      | false => rfl
      | true => exact absurd g.1 (by simp [Code.guards, e])
    rw [List.any_cons, hf c p hgc (hc (c, p) (.head _)), any_clean hf l g.2 fun y hy => hc y (.tail _ hy)]; rfl
/-- no code on a clean stack holds the buffer -/
theorem exported_false {M : Model} {A : Around} {E : Value → Shared → Prop} {s : Shared} {v : Value} {Q : Bool → Shared → Prop} (hg : A.guards = some []) (h : Q false s) : wpC M A (Builtin.Bytes.exported v) Q E s := by
  intro Γ p hΓ h1 h2
  have hgs : guardsOf ((Γ.code, p) :: Γ.below) = [] := by rw [guardsOf_cons]; exact hΓ.2.2.2.1 _ hg
  unfold Builtin.Bytes.exported
  rw [Sem.wp_bind']
  show Sem.wp M Γ (.stack .pure) _ _ p s
  rw [Sem.wp_stack, Sem.wp_pure, Sem.wp_pure']
  refine Eq.mpr (congrArg (fun b => Q b s) (any_clean (fun c q hgc hd => ?_) _ hgs (CleanL.cons h1 h2))) h
  cases c <;> try rfl
  rename_i id args
  dsimp only [dirty] at hd
  dsimp only [Code.isGuard, guardIds] at hgc
  split
  all_goals first | rfl | (exfalso; simp_all; done) | simp_all
end Mine
end
section
open PySem PySem.W PyProof.Rows
set_option Elab.async false
namespace Mine
open PySem.Calls PySem.Spec

theorem name_of {b : Bool} {n m : Str} (h : n ∈ if b = true then [m] else []) : n = m := by
  cases b with
  | true => exact List.mem_singleton.mp h
  | false => cases h
theorem caller_clean : dirty (.builtin "claim.caller" {}) = false := by decide +kernel

/-- the claim's caller stands on a clean stack -/
theorem wp_at_caller {M : Model} {t : Sem Fin} {R : Result → Shared → Prop} {s : Shared}
    (h : wpC M callerA t (fun fin s' => ∃ f, fin = .done f ∧ R (.ok f) s') (fun e s' => R (.error e) s') s) (p : Pos) :
    Sem.wp M ⟨.builtin "claim.caller" {}, none, none, [], none⟩ t (Sem.finPost M ⟨.builtin "claim.caller" {}, none, none, [], none⟩ R) (fun e _ s' => R (.error e) s') p s := by
  refine Sem.wp_mono M _ t ?_ (fun _ _ _ x => x) p s (h _ p caller_in caller_clean fun _ x => nomatch x)
  rintro fin p' s' ⟨f, rfl, hf⟩
  exact hf

/-- what a law's call must show, over clean stacks -/
abbrev WalkC (q : Program) (loose : List Str) (XP : (Str → Option Value) → Heap → Prop) (YP : World → Heap → Prop) (r : RowW) (d : DefRec) (kwd : List (Str × Expr)) (run : Value → List Value → Sem Value) : Prop :=
  ∀ (w : World) (s₀ s₁ : Shared) (mg mb : Str → Option Value), Ground q loose r.records XP w s₀ mg mb s₁.heap → YP w s₁.heap → ∀ (a : Addr) (o : Obj) (pm cd doc dV kV : Value), s₁.heap.get? a = some o →
    o.data = .func { docDef d.name d.params d.body d.scope pm cd doc with defaults := dV, kwdefaults := kV } → s₁.heap.CodeRec cd d.name → Dflts mg s₁.heap d.params kwd dV kV → mg d.name = some (.ref a) → s₁.gens = #[] →
    ∀ (args : List WData) (vals : List Value) (as : List Addr), r.claim.pre args = true → WData.layableAll args = true → ReadsAllW r.records (classAt s₀.heap) s₁.heap vals args as → WellAll w.params s₁.heap vals args → (∀ a ∈ as, (a == sysModules) = false) →
      wpC (model r.prog w) callerA (run (.ref a) vals) (fun v s' => GoodWG r.claim (classAt s₀.heap) (ExcName.means s₀.heap) args s₁ (.ok (.ret v)) s')
        (fun e s' => GoodWG r.claim (classAt s₀.heap) (ExcName.means s₀.heap) args s₁ (.error e) s') s₁

/-- the head of a row whose call is walked over clean stacks -/
theorem law_head {r : OpenRow} {q : Program} {loose : List Str} {Xt : Shared → Bool} {XP : (Str → Option Value) → Heap → Prop} {α : Type} {Yf : Shared → α} {Ya : World → α} {YP : World → Heap → Prop} {d : DefRec} {kwd : List (Str × Expr)} {N : Nat}
    (left : LeftO r.prog q loose Xt Yf Ya N) (hY : ∀ w s, Yf s = Ya w → YP w s.heap) (hYk : ∀ w h h', YP w h → (∀ b o, h.get? b = some o → h'.get? b = some o) → YP w h')
    (hX : ∀ s, Xt s = true → XP (s.heap.nsMap mainGlobals) s.heap) (hXk : ∀ mg h h', XP mg h → (∀ b o, h.get? b = some o → h'.get? b = some o) → XP mg h')
    (hdef : defOf q r.name = some (d, kwd)) (hp : r.prog.theDef r.name = some (d.params, d.body, d.scope)) (hk : kwWritten? d.params.kwonlyargs d.params.kw_defaults = some kwd) (hRf : ∀ s, Xt s = true → RecFacts r.records s.heap) (hwr : (!r.writes || r.records.isEmpty) = true)
    (k1 : r.wellSaid = true) (ok : (chainsOk q && opensWell r.prog && (frees r.toRowW && r.within.isEmpty)) = true) (hb : r.prog.bare) (hw : r.toRowW.promised)
    (call : WalkC q loose XP YP r.toRowW d kwd fun f vs => PySem.call f vs) : r.Holds := by
  simp only [Bool.and_eq_true] at ok
  obtain ⟨⟨hch, how⟩, hfr, hwi⟩ := ok
  obtain ⟨hsame, hu, ha, hap, hm⟩ := frees_parts hfr
  have hwi' : r.toRowW.claim.within = [] := List.isEmpty_iff.mp hwi
  have hid := ident_freeW hu ha hap
  refine ⟨k1, hw, ⟨hb, how, by show r.makers.map _ = []; rw [hm]; rfl⟩, hw.witness, fun w => ⟨(left.behind hX hch w).1, fun sI hI => ?_⟩⟩
  obtain ⟨s₀, hf, hg0, s, hT, hz, hgens, hg, G00, y⟩ := (left.behind (XP := fun mg h => XP mg h ∧ RecFacts r.records h) (fun s hs => ⟨hX s hs, hRf s hs⟩) hch w).2 sI hI
  have RF := G00.X.2
  have G0 : Ground q loose [] XP w s (s.heap.nsMap mainGlobals) (s.heap.nsMap builtinsNs) s.heap := ⟨G00.T, G00.B, G00.D, G00.TE, G00.TD, G00.W, G00.X.1, G00.cls, G00.has, G00.apart, G00.once, G00.K⟩
  have hgens : s.gens = #[] := Array.eq_empty_of_size_eq_zero (beq_iff_eq.mp hgens)
  have G : Ground q loose r.records XP w s _ _ s.heap := RF.ground G0
  refine ⟨s₀, hf, hg0, s, hT, fun n hn => ?_, RF.1, RF.2.1, fun args hpre hlay ord hord => ?_⟩
  · obtain rfl : n = r.name := name_of hn
    exact pinned_of_view hg G0 hdef hp hk
  -- the arguments are laid; the call
  obtain ⟨⟨vs, s₁⟩, hlaid⟩ := Option.isSome_iff_exists.mp (layAllW_isSome (P := w.params) (ord := ord) G.has args r.args s (pre_splitW hpre).1)
  have keeps := layAllW_keeps _ _ _ hlaid
  have hal := layAllW_rest _ _ _ hlaid
  obtain ⟨as, hrd, hin, hold⟩ := reads_layAllW hord _ _ _ hlaid hlay s₁.heap (fun _ _ e => e)
  have L : Laid r.records w s s₁ args vs as := ⟨⟨ord, hord, hlaid⟩, hrd, hin, hold, keeps, hal.1.trans hgens, hal.2.2.1⟩
  have G₁ := G.keeps hXk keeps
  obtain ⟨a, o, pm, cd, doc, dV, kV, h1, h2, h3, h4, h5⟩ := G₁.fn hdef
  have W := call w s s₁ _ _ G₁ (hYk _ _ _ (hY w s y) keeps) a o pm cd doc dV kV h2 h3 h4 h5 (defOf_name hdef ▸ h1) L.gens args vs as hpre hlay L.reads L.well (L.low G.low)
  let R : Result → Shared → Prop := fun r' s' => (r.toRowW.claim.Ends s args vs s₁ r' s' ∧ s'.os = s.os ∧ (r.writes = true → namesKept r.prog r.keeps s.heap s'.heap ∧ ∀ x ∈ r.records, ∀ a, classAt s.heap x.1 = some a → recordClass s'.heap a x.1 (x.2.map (·.1)) = true)) ∧ leftWithCleanup s'.gens = false
  have good : ∀ r' s', GoodWG r.toRowW.claim (classAt s.heap) (ExcName.means s.heap) args s₁ r' s' → R r' s' := fun r' s' g => by
    have z := g.laid (c := r.toRowW.claim) hsame hwi' hid L
    exact ⟨⟨z.1, z.2.1, fun q => ⟨namesKept_of hT hg r.keeps keeps g.2.1.old, noTable hwr q⟩⟩, leftWithCleanup_false_of_bare z.2.2⟩
  have T : wpC (model r.prog w) callerA (do match ← nsGet mainNs r.name with
      | some f => do ret (← PySem.call f vs)
      | none => unsupported "claim.caller:no-such-global") (fun fin s' => ∃ f, fin = .done f ∧ R (.ok f) s') (fun e s' => R (.error e) s') s₁ := by
    refine wpC_bindA (wpAny_nsGet G₁.T.g ?_)
    rw [h1]
    exact wpC_bind (wpC_mono W (fun v s' g => wpC_pure ⟨_, rfl, good _ _ g⟩) fun e s' g => good _ _ g)
  obtain ⟨k, r', sx, sy, hsched, hrun, hfo, ⟨hends, hos, hkp⟩⟩ := wp_halts_full (M := model r.prog w) (Shared.asleep_of_life hal.2.2.2 hz) (wp_at_caller T default)
  obtain ⟨eh, _, _, eo, _⟩ := Shared.forget_eq hfo
  have hends := hends.congr eh
  have hlife : sy.heap.life = s.heap.life := (runN_life _ _ _ hrun).trans hal.2.2.2
  refine ⟨vs, s₁, hlaid, k, _, sy, hsched, ?_, (fun _ i x hx => by rw [hgens] at hx; simp at hx), by rw [eh]; exact hkp, by rw [hlife], Shared.rest_eq (by rw [eo]; exact hos)⟩
  rcases hends with ⟨v, rfl, d1, d2, d3, d4, d5⟩ | ⟨e, ob, cls, rfl, d1, d2, d3, d4, d5⟩
  · exact .inl ⟨v, rfl, d1, d2, d3, fun b o y _ => d4 b o y, d5⟩
  · exact .inr ⟨e, ob, cls, rfl, d1, d2, d3, d4, fun b o y _ => d5 b o y⟩
end Mine
end
section
open PySem PySem.W PyProof.Rows
set_option Elab.async false
namespace MineH
open PySem.Calls PySem.Spec Mine
theorem map_pair {α β γ : Type} {o : Option α} {f : α → β} {g : α → γ} {x : β} {y : γ} (h1 : o.map f = some x) (h2 : o.map g = some y) : o.map (fun s => (f s, g s)) = some (x, y) := by
  cases o with
  | none => cases h1
  | some a =>
    rw [Option.map_some] at h1 h2 ⊢
    rw [Option.some.inj h1, Option.some.inj h2]
theorem hook_obs {K : Params → Frag} {as : List Addr} {e : ∀ P, as = (K P).map (·.1)} {o : Option Shared} {w : World} (h : o.map (fun s => ((K w.params).map (·.1)).map s.heap.get?) = some ((K w.params).map fun p => some p.2)) :
    o.map (Hook.obs (kHook K as e)) = some (Hook.val (kHook K as e) w) := by
  show o.map (fun s => as.map s.heap.get?) = some ((K w.params).map fun p => some p.2)
  rw [e w.params]
  exact h
/- our own head; the look at the top's run stands beside the walk, so that it can be proved apart -/
theorem head_apart {r : OpenRow} {q : Program} {loose : List Str} {Xt : Shared → Bool} {XP : (Str → Option Value) → Heap → Prop} {α : Type} {Yf : Shared → α} {Ya : World → α} {YP : World → Heap → Prop} {d : DefRec} {kwd : List (Str × Expr)} {N : Nat}
    (_left : True) (hY : ∀ w s, Yf s = Ya w → YP w s.heap) (hYk : ∀ w h h', YP w h → (∀ b o, h.get? b = some o → h'.get? b = some o) → YP w h')
    (hX : ∀ s, Xt s = true → XP (s.heap.nsMap mainGlobals) s.heap) (hXk : ∀ mg h h', XP mg h → (∀ b o, h.get? b = some o → h'.get? b = some o) → XP mg h')
    (hdef : defOf q r.name = some (d, kwd)) (hp : r.prog.theDef r.name = some (d.params, d.body, d.scope)) (hk : kwWritten? d.params.kwonlyargs d.params.kw_defaults = some kwd) (hRf : ∀ s, Xt s = true → RecFacts r.records s.heap) (hwr : (!r.writes || r.records.isEmpty) = true)
    (k1 : r.wellSaid = true) (ok : (chainsOk q && opensWell r.prog && (frees r.toRowW && r.within.isEmpty)) = true) (hb : r.prog.bare) (hw : r.toRowW.promised)
    (call : LeftO r.prog q loose Xt Yf Ya N ∧ WalkC q loose XP YP r.toRowW d kwd fun f vs => PySem.call f vs) : r.Holds :=
  Mine.law_head call.1 hY hYk hX hXk hdef hp hk hRf hwr k1 ok hb hw call.2
/- the library's tactic that runs the top asks for its own head: it is given ours -/
local macro_rules | `(tactic| refine $f:ident $args*) => if f.getId.eraseMacroScopes == `PySem.W.holds_open then `(tactic| (refine (MineH.head_apart $args*); (case hl => trivial))) else Lean.Macro.throwUnsupported
local macro_rules | `(tactic| o_law) => `(tactic| refine (holds_law (by (rw [PySem.W.Fast.te9446332074065402090]; kernel_rfl)) fun said => ?_))
set_option maxRecDepth 100000 in
set_option maxHeartbeats 800000 in
open_top top for PySem.Challenge.rw_nm0116_01
/- the lines that the top's walk adds are put away again -/
theorem walk_plain : True := by
  w_top off
  trivial
/- what the top leaves behind: one look at the defs and classes, one at the objects that the walk leans on; by the kernel, with the library's quick twins -/
set_option maxRecDepth 100000 in
set_option maxHeartbeats 800000 in
theorem left1 : ∀ w, (openEnds treeTable PySem.Challenge.rw_nm0116_01.row.prog w 4108).map (fun s => openSeen MineH.top.view_1 [] (importedModules PySem.Challenge.rw_nm0116_01.row.prog.main.body) (fun s => xlAt MineH.top.view_1 [] s && recOk (RowW.records PySem.Challenge.rw_nm0116_01.row.toRowW) s) true s) = some (openGood MineH.top.view_1 []) := by
  intro w
  unfold openEnds fencedOpening topFrom
  rw [PySem.W.Fast.te10274390034422433532, PySem.W.Fast.te14082659384304107361, PySem.W.Fast.te14289696077712309145, PySem.W.Fast.te1435165496053646825, PySem.W.Fast.te8920871248978507458, PySem.W.Fast.te4187177175401517315]
  rw [PySem.W.Fast.te14364793385576792824]
  kernel_rfl
set_option maxRecDepth 100000 in
set_option maxHeartbeats 800000 in
theorem left2 : ∀ w, (openEnds treeTable PySem.Challenge.rw_nm0116_01.row.prog w 4108).map (fun s => ((MineH.top.heap_1 w.params).map (·.1)).map s.heap.get?) = some ((MineH.top.heap_1 w.params).map fun p => some p.2) := by
  intro w
  unfold openEnds fencedOpening topFrom
  rw [PySem.W.Fast.te10274390034422433532, PySem.W.Fast.te14082659384304107361, PySem.W.Fast.te14289696077712309145, PySem.W.Fast.te1435165496053646825, PySem.W.Fast.te8920871248978507458]
  rw [PySem.W.Fast.te14364793385576792824]
  kernel_rfl
end MineH
end
section
open PySem PySem.W PyProof.Rows
set_option Elab.async false
namespace Mine.BF
set_option maxRecDepth 100000
theorem slot_len : Slot "bytearray" "__len__" "bytearray.__len__" :=
  .of (owner := "bytearray") (n := "__len__") (by rw [typeLookup_type, builtinLookup_eq_fast]; kernel_rfl) (by decide +kernel) (by decide +kernel) (by decide +kernel)
    (by first | exact .inl (by decide +kernel) | exact .inr (by decide +kernel)) (by rw [isSubtype_type]; kernel_rfl)
theorem entry_len : entryFor table "bytearray.__len__" = some Builtin.«bytearray.__len__» := entryFor_of_tree (by kernel_rfl)
theorem args_len (a : Value) : argsOk "bytearray.__len__" ⟨[a], []⟩ := by unfold argsOk; kernel_rfl
theorem slot_getitem : Slot "bytearray" "__getitem__" "bytearray.__getitem__" :=
  .of (owner := "bytearray") (n := "__getitem__") (by rw [typeLookup_type, builtinLookup_eq_fast]; kernel_rfl) (by decide +kernel) (by decide +kernel) (by decide +kernel)
    (by first | exact .inl (by decide +kernel) | exact .inr (by decide +kernel)) (by rw [isSubtype_type]; kernel_rfl)
theorem entry_getitem : entryFor table "bytearray.__getitem__" = some Builtin.«bytearray.__getitem__» := entryFor_of_tree (by kernel_rfl)
theorem args_getitem (a b : Value) : argsOk "bytearray.__getitem__" ⟨[a, b], []⟩ := by unfold argsOk; kernel_rfl
theorem slot_setitem : Slot "bytearray" "__setitem__" "bytearray.__setitem__" :=
  .of (owner := "bytearray") (n := "__setitem__") (by rw [typeLookup_type, builtinLookup_eq_fast]; kernel_rfl) (by decide +kernel) (by decide +kernel) (by decide +kernel)
    (by first | exact .inl (by decide +kernel) | exact .inr (by decide +kernel)) (by rw [isSubtype_type]; kernel_rfl)
theorem entry_setitem : entryFor table "bytearray.__setitem__" = some Builtin.«bytearray.__setitem__» := entryFor_of_tree (by kernel_rfl)
theorem args_setitem (a b c : Value) : argsOk "bytearray.__setitem__" ⟨[a, b, c], []⟩ := by unfold argsOk; kernel_rfl
theorem slot_extend : Slot "bytearray" "extend" "bytearray.extend" :=
  .of (owner := "bytearray") (n := "extend") (by rw [typeLookup_type, builtinLookup_eq_fast]; kernel_rfl) (by decide +kernel) (by decide +kernel) (by decide +kernel)
    (by first | exact .inl (by decide +kernel) | exact .inr (by decide +kernel)) (by rw [isSubtype_type]; kernel_rfl)
theorem type_extend : typeOf (.builtin "bytearray.extend") = pure (.type "method_descriptor") := by show builtinType _ = _; rw [builtinType_eq_fast]; kernel_rfl
theorem entry_extend : entryFor table "bytearray.extend" = some Builtin.«bytearray.extend» := entryFor_of_tree (by kernel_rfl)
theorem args_extend (a b : Value) : argsOk "bytearray.extend" ⟨[a, b], []⟩ := by unfold argsOk; kernel_rfl
theorem ba_no_index : typeLookup (.type "bytearray") "__index__" = pure none := by rw [typeLookup_type, builtinLookup_eq_fast]; kernel_rfl
theorem ba_no_bytes : typeLookup (.type "bytearray") "__bytes__" = pure none := by rw [typeLookup_type, builtinLookup_eq_fast]; kernel_rfl
theorem buffer_ba : typeLookup (.type "bytearray") "__buffer__" = pure (some (.builtin "bytearray.__buffer__")) := by rw [typeLookup_type, builtinLookup_eq_fast]; kernel_rfl
theorem release_ba : typeLookup (.type "bytearray") "__release_buffer__" = pure (some (.builtin "bytearray.__release_buffer__")) := by rw [typeLookup_type, builtinLookup_eq_fast]; kernel_rfl
end Mine.BF
end
section
open PySem PySem.W PyProof.Rows PySem.Builtin
set_option Elab.async false
namespace Mine
abbrev baObj (d : List UInt8) : Obj := { cls := .type "bytearray", data := .bytearray d.toArray }
theorem ba_typeIs {s : Shared} {b : Addr} {d : List UInt8} (h : s.heap.get? b = some (baObj d)) : s.TypeIs (.ref b) "bytearray" := ⟨_, h, rfl⟩
section
variable {M : Model} {A : Around} {E : Value → Shared → Prop} {s : Shared} {b : Addr} {d : List UInt8}
theorem payload_ba {Q : Array UInt8 → Shared → Prop} (h : s.heap.get? b = some (baObj d)) (hQ : Q d.toArray s) : wpAny M A (Bytes.payload (.ref b)) Q E s := by
  unfold Bytes.payload Bytes.payload?
  refine wpAny_bind (wpAny_bind (wpAny_load h ?_))
  exact wpAny_pure (wpAny_pure hQ)
theorem payload_bytes {x : Array UInt8} {t : Tok} {Q : Array UInt8 → Shared → Prop} (hQ : Q x s) : wpAny M A (Bytes.payload (.bytes x t)) Q E s := wpAny_of_eq rfl hQ
end

theorem meets_len (b : Addr) (d : List UInt8) : Meets («bytearray.__len__» ⟨[.ref b], []⟩) (fun _ R s => s.heap.get? b = some (baObj d) ∧ R (.ok (.ret (.int d.length s.toks))) { s with toks := s.toks + 1 }) := by
  refine .of_wp fun prog w A R s ⟨h, hR⟩ => ?_
  show wpAny _ _ (Bytes.payload (.ref b) >>= fun r => retInt r.size) _ _ s
  refine wpAny_bind (payload_ba h ?_)
  exact wpAny_bind (wpAny_mkInt (wpAny_pure ⟨_, rfl, by rw [List.size_toArray]; exact hR⟩))

/-- the part of d at `at` of n octets -/
def part (d : List UInt8) (i n : Nat) : List UInt8 := (d.drop i).take n
theorem part_length {d : List UInt8} {i n : Nat} (h : i + n ≤ d.length) : (part d i n).length = n := by simp [part]; omega
theorem bounds_of {d : List UInt8} {lo hi : Int} (h0 : 0 ≤ lo) (h1 : lo ≤ hi) (h2 : hi ≤ d.length) : sliceBounds (some lo) (some hi) none d.length = (lo, hi, 1) := by
  unfold sliceBounds
  have n1 : ¬ lo < 0 := by omega
  have n2 : ¬ hi < 0 := by omega
  simp only [Option.getD_none, if_neg n1, if_neg n2]
  simp only [show (1 : Int) > 0 from by decide, if_true]
  congr 1
  · omega
  · congr 1; omega
theorem diffT {lo hi : Int} (h0 : 0 ≤ lo) (h1 : lo ≤ hi) : hi.toNat - lo.toNat = (hi - lo).toNat := by omega
theorem partD {d : List UInt8} {a m t : Int} (h0 : 0 ≤ a) (h1 : 0 ≤ m) (h2 : a + m ≤ d.length) : ((part d a.toNat (a + m - a).toNat).length : Int) = t + m - t := by
  rw [part_length (by omega)]; omega
theorem sliced_part {d : List UInt8} {lo hi : Int} (h0 : 0 ≤ lo) (h1 : lo ≤ hi) (h2 : hi ≤ d.length) : (Bytes.sliced d.toArray lo hi 1) = (part d lo.toNat (hi - lo).toNat).toArray := by
  have e := KBc.picked_eq d.toArray (some lo) (some hi)
  unfold KBy.picked at e
  rw [show d.toArray.size = d.length from List.size_toArray] at e
  rw [bounds_of h0 h1 h2] at e
  rw [e]
  unfold part
  congr 1
  simp only [Option.elim]
  have c1 : clipAt d.length lo = lo.toNat := clipAt_in h0 (Int.le_trans h1 h2)
  have c2 : clipAt d.length hi = hi.toNat := clipAt_in (Int.le_trans h0 h1) h2
  rw [c1, c2]
  congr 1
  exact diffT h0 h1
theorem sliceParts_ints {M : Model} {A : Around} {E : Value → Shared → Prop} {s : Shared} {a : Addr} {lo hi : Int} {t1 t2 : Tok} {Q : Value × Value × Value → Shared → Prop} (hs : s.heap.IsSliceOf a (.int lo t1) (.int hi t2) .none)
    (hQ : Q (rawInt lo, rawInt hi, .none) s) : wpAny M A (Bytes.sliceParts (.ref a)) Q E s := by
  obtain ⟨o, ho, hc, hd⟩ := hs
  unfold Bytes.sliceParts
  refine wpAny_bind (wpAny_field (x := .none) ho hd rfl ?_)
  refine wpAny_bind (wpAny_of_eq (a := Value.none) rfl ?_)
  refine wpAny_ite (KBy.ite_no (show ¬ ((Value.none == rawInt 0) = true) from Bool.false_ne_true) ?_)
  refine wpAny_bind (wpAny_field (x := .int lo t1) ho hd rfl ?_)
  kby_int
  refine wpAny_bind (wpAny_field (x := .int hi t2) ho hd rfl ?_)
  kby_int
  exact wpAny_pure hQ
theorem slice_typeIs {s : Shared} {a : Addr} {l u st : Value} (hs : s.heap.IsSliceOf a l u st) : s.TypeIs (.ref a) "slice" := by
  obtain ⟨o, ho, hc, hd⟩ := hs
  exact ⟨o, ho, hc⟩
theorem subscript_slice {M : Model} {A : Around} {E : Value → Shared → Prop} {s : Shared} {a : Addr} {l u st : Value} {Q : Option Int → Shared → Prop} (hs : s.heap.IsSliceOf a l u st) (hQ : Q none s) : wpAny M A (Bytes.subscript? (.ref a)) Q E s := by
  unfold Bytes.subscript?
  exact wpAny_bind (wpAny_specialOf (slice_typeIs hs) PySem.slice_no_index (wpAny_pure hQ))

theorem meets_getslice (b a : Addr) (d : List UInt8) (lo hi : Int) (t1 t2 : Tok) (h0 : 0 ≤ lo) (h1 : lo ≤ hi) (h2 : hi ≤ d.length) (hz : d.length ≤ sizeLine) :
    Meets («bytearray.__getitem__» ⟨[.ref b, .ref a], []⟩) (fun _ R s => s.heap.get? b = some (baObj d) ∧ s.heap.IsSliceOf a (.int lo t1) (.int hi t2) .none ∧
      R (.ok (.ret (.ref s.heap.objs.size))) { s with heap := s.heap.push (baObj (part d lo.toNat (hi - lo).toNat)) }) := by
  refine .of_wp fun prog w A R s ⟨h, hs, hR⟩ => ?_
  show wpAny _ _ (Bytes.subscript? (.ref a) >>= fun r => _) _ _ s
  refine wpAny_bind (subscript_slice hs ?_)
  dsimp only
  refine wpAny_bind (wpAny_typeOf (slice_typeIs hs) ?_)
  refine wpAny_ite (KBy.ite_no (show ¬ ((Value.type "slice" != .type "slice") = true) from by decide) ?_)
  refine wpAny_bind (sliceParts_ints hs ?_)
  dsimp only
  refine wpAny_bind (payload_ba h ?_)
  refine wpAny_bind (wpAny_of_eq (sliceIndices_raw (some lo) (some hi) none _ (fun e => nomatch e)) ?_)
  rw [List.size_toArray, bounds_of h0 h1 h2]
  dsimp only
  rw [sliced_part h0 h1 h2]
  refine wpAny_bind ?_
  unfold Bytes.newBytearray
  refine wpAny_newObj_type (wpAny_pure ⟨_, rfl, hR⟩) ?_
  show (part d lo.toNat (hi - lo).toNat).toArray.size ≤ sizeLine
  rw [List.size_toArray, part_length (by omega)]
  omega
/-- new octets laid over d from lo on -/
def paste (d : List UInt8) (lo : Nat) (new : List UInt8) : List UInt8 := d.take lo ++ new ++ d.drop (lo + new.length)
theorem paste_length {d new : List UInt8} {lo : Nat} (h : lo + new.length ≤ d.length) : (paste d lo new).length = d.length := by
  unfold paste
  simp only [List.length_append, List.length_take, List.length_drop]
  omega
theorem write_ba {M : Model} {A : Around} {E : Value → Shared → Prop} {s : Shared} {b : Addr} {d d' : List UInt8} {f : Array UInt8 → Array UInt8} {Q : Unit → Shared → Prop} (h : s.heap.get? b = some (baObj d)) (hf : f d.toArray = d'.toArray) (hz : d'.length ≤ sizeLine)
    (hQ : ∀ g : Obj → Obj, g (baObj d) = baObj d' → Q () { s with heap := s.heap.update b g }) : wpAny M A (Bytes.write (.ref b) f) Q E s := by
  show wpAny M A (updateBytearray b f) Q E s
  unfold updateBytearray
  refine wpAny_bind (wpAny_load h ?_)
  have hg : Obj.mapBytearray f (baObj d) = baObj d' := by
    show ({ cls := .type "bytearray", data := .bytearray (f d.toArray) } : Obj) = _
    rw [hf]
  show wpAny _ _ (update b (Obj.mapBytearray f) >>= fun _ => lookBehind b) _ _ _
  refine wpAny_bind (wpAny_update h ?_)
  have h2 : (s.heap.update b (Obj.mapBytearray f)).get? b = some (baObj d') := by
    rw [← hg]
    exact Heap.get?_update_self (Obj.mapBytearray f) h rfl
  refine wpAny_lookBehind h2 ?_ (hQ _ hg)
  show (if d'.toArray.size > sizeLine then some "bytearray:memory" else none) = none
  rw [if_neg]
  rw [List.size_toArray]
  omega
theorem paste_array {d new : List UInt8} {lo hi : Int} (h0 : 0 ≤ lo) (h1 : lo ≤ hi) (h2 : hi ≤ d.length) (hn : (new.length : Int) = hi - lo) :
    d.toArray.extract 0 lo.toNat ++ new.toArray ++ d.toArray.extract (max lo hi).toNat d.toArray.size = (paste d lo.toNat new).toArray := by
  unfold paste
  rw [show (max lo hi).toNat = lo.toNat + new.length by omega]
  simp
  exact List.take_of_length_le (by simp)

theorem meets_setslice_ba (b c a : Addr) (d new : List UInt8) (lo hi : Int) (t1 t2 : Tok) (hbc : b ≠ c) (h0 : 0 ≤ lo) (h1 : lo ≤ hi) (h2 : hi ≤ d.length) (hn : (new.length : Int) = hi - lo) (hz : d.length ≤ sizeLine) :
    Meets («bytearray.__setitem__» ⟨[.ref b, .ref a, .ref c], []⟩) (fun _ R s => s.heap.get? b = some (baObj d) ∧ s.heap.get? c = some (baObj new) ∧ s.heap.IsSliceOf a (.int lo t1) (.int hi t2) .none ∧
      ∀ g : Obj → Obj, g (baObj d) = baObj (paste d lo.toNat new) → R (.ok (.ret .none)) { s with heap := s.heap.update b g }) := by
  refine .of_wp fun prog w A R s ⟨h, hc, hs, hR⟩ => ?_
  show wpAny _ _ (Bytes.subscript? (.ref a) >>= fun r => _) _ _ s
  refine wpAny_bind (subscript_slice hs ?_)
  dsimp only
  refine wpAny_bind (wpAny_typeOf (slice_typeIs hs) ?_)
  refine bm_if_false (by decide) ?_
  refine wpAny_bind (sliceParts_ints hs ?_)
  have hne : Bytes.sameRef (.ref b) (.ref c) = false := by
    show (b == c) = false
    simpa using hbc
  dsimp only
  refine bm_if_false hne ?_
  refine wpAny_bind (wpAny_isInstance (ba_typeIs hc) F.sub_bytearray_bytearray ?_)
  refine bm_if_false (by decide) ?_
  refine wpAny_bind (payload_ba hc ?_)
  refine wpAny_bind (payload_ba h ?_)
  refine wpAny_bind (wpAny_of_eq (sliceIndices_raw (some lo) (some hi) none _ (fun e => nomatch e)) ?_)
  rw [List.size_toArray, bounds_of h0 h1 h2]
  dsimp only
  refine bm_if_true (by decide) ?_
  refine wpAny_bind (wpAny_rule ?_)
  refine bm_if_false (by rw [List.size_toArray, show max lo hi = hi by omega, hn]; exact bne_self_eq_false _) ?_
  refine wpAny_bind (write_ba (d' := paste d lo.toNat new) h (paste_array h0 h1 h2 hn) (by rw [paste_length (by omega)]; exact hz) fun g hg => ?_)
  exact wpAny_pure ⟨_, rfl, hR g hg⟩
end Mine
end
section
open PySem PySem.W PyProof.Rows PySem.Builtin
set_option Elab.async false
namespace Mine
section
variable {α : Type} {M : Model} {A : Around} {E : Value → Shared → Prop} {s : Shared}
theorem wpC_ifn {c : Bool} {a b : Sem α} {Q : α → Shared → Prop} (hc : c = false) (h : wpC M A b Q E s) : wpC M A (if c = true then a else b) Q E s := by subst hc; exact h
theorem wpC_ifp {c : Bool} {a b : Sem α} {Q : α → Shared → Prop} (hc : c = true) (h : wpC M A a Q E s) : wpC M A (if c = true then a else b) Q E s := by subst hc; exact h
theorem wpC_ifN {c : Prop} [Decidable c] {a b : Sem α} {Q : α → Shared → Prop} (hc : ¬ c) (h : wpC M A b Q E s) : wpC M A (if c then a else b) Q E s := by rw [if_neg hc]; exact h
theorem wpC_ifP {c : Prop} [Decidable c] {a b : Sem α} {Q : α → Shared → Prop} (hc : c) (h : wpC M A a Q E s) : wpC M A (if c then a else b) Q E s := by rw [if_pos hc]; exact h
theorem wpC_eq {t : Sem α} {a : α} {Q : α → Shared → Prop} (e : t = pure a) (h : Q a s) : wpC M A t Q E s := by rw [e]; exact wpC_pure h
end
section
variable {prog : Program} {w : World} {A : Around} {E : Value → Shared → Prop} {s : Shared}
theorem codeC_builtin {id : String} {args : Args} {b : Builtin} {R : Result → Shared → Prop} (hd : dirty (.builtin id args) = false) (hb : entryFor table id = some b)
    (h : wpC (model prog w) (A.under (.builtin id args)) (b args) (fun fin s' => match fin with | .done f => R (.ok f) s' | .again c' => c'.quiet = true ∧ codeC (model prog w) A c' R s') (fun e s' => R (.error e) s') s) :
    codeC (model prog w) A (.builtin id args) R s := by
  refine codeC_of_tree hd ?_
  show wpC _ _ (match entryFor table id with | some b => b args | none => unsupported ((withoutEnding? id "#data").getD id)) _ _ s
  rw [hb]
  exact h
theorem codeC_call_builtin_at {R : Result → Shared → Prop} {id : String} {args : Args} {b : Builtin} (hq : (Code.builtin id args).quiet = true) (hd : dirty (.builtin id args) = false) (hb : entryFor table id = some b)
    (h : wpAny (model prog w) A.in1 (checkBuiltinCall id args) (fun _ s₁ => wpC (model prog w) (A.under (.builtin id args)) (b args)
      (fun fin s' => match fin with | .done f => R (.ok f) s' | .again c' => c'.quiet = true ∧ codeC (model prog w) A c' R s') (fun e s' => R (.error e) s') s₁)
      (fun e s' => R (.error e) s') s) : codeC (model prog w) A (.call (.builtin id) args) R s := by
  refine codeC_of_treeA ?_
  show wpAny _ A.in1 (do checkBuiltinCall id args; again (.builtin id args)) _ _ s
  exact wpAny_bind (wpAny_mono h (fun _ s₁ h₁ => wpAny_pure ⟨hq, codeC_builtin hd hb h₁⟩) fun _ _ h' => h')
theorem codeC_call_builtin {id : String} {args : Args} {b : Builtin} {R : Result → Shared → Prop} (hq : plainId id = true) (hd : dirty (.builtin id args) = false) (hb : entryFor table id = some b)
    (h : wpAny (model prog w) A.in1 (checkBuiltinCall id args) (fun _ s₁ => wpC (model prog w) A.in1 (b args) (fun fin s' => match fin with | .done f => R (.ok f) s' | .again c' => c'.quiet = true ∧ codeC (model prog w) A c' R s') (fun e s' => R (.error e) s') s₁) (fun e s' => R (.error e) s') s) :
    codeC (model prog w) A (.call (.builtin id) args) R s :=
  codeC_call_builtin_at (plainId_quiet hq _) hd hb (by rw [Around.under_plainId hq _]; exact h)
/-- a slot's call -/
theorem callC_slot {T : String} {name : Str} {id : String} {B : Builtin} {self : Value} {rest : List Value} {Q : Value → Shared → Prop} (slot : Slot T name id) (hT : s.TypeIs self T) (entry : entryFor table id = some B) (args : argsOk id ⟨self :: rest, []⟩)
    (hd : dirty (.builtin id ⟨self :: rest, []⟩) = false) (h : wpC (model prog w) A.in1 (B ⟨self :: rest, []⟩) (fun fin s' => ∃ v, fin = .done (.ret v) ∧ Q v s') E s) : wpC (model prog w) A (call (.builtin id) (self :: rest)) Q E s := by
  refine wpC_call (codeC_call_builtin slot.plain hd entry (slot.check _ _ _ _ _ _ _ _ hT args (wpC_mono h ?_ fun _ _ x => x)))
  rintro fin s' ⟨v, rfl, hv⟩
  exact hv
theorem callSpecialC {self : Value} {T : String} {name : Str} {id : String} {args : List Value} {Q : Option Value → Shared → Prop} (hT : s.TypeIs self T) (h : Slot T name id)
    (hc : wpC (model prog w) A (call (.builtin id) (self :: args)) (fun v => Q (some v)) E s) : wpC (model prog w) A (callSpecial? self name args) Q E s := by
  unfold callSpecial?
  refine wpC_bindA (wpAny_specialOf hT h.lookup ?_)
  dsimp only
  refine wpC_holding ?_
  rw [h.bind]
  exact wpC_bind (wpC_pure (wpC_bind (wpC_mono hc (fun v s' h' => wpC_pure h') fun _ _ x => x)))
end
namespace BF
set_option maxRecDepth 100000
theorem mro_ba : mroOf (.type "bytearray") = pure [.type "bytearray", .type "object"] := by rw [mroOf_type]; kernel_rfl
theorem lookup_new : typeLookup (.type "bytearray") "__new__" = pure (some (.builtin "bytearray.__new__")) := by rw [typeLookup_type, builtinLookup_eq_fast]; kernel_rfl
theorem slot_init : Slot "bytearray" "__init__" "bytearray.__init__" :=
  .of (owner := "bytearray") (n := "__init__") (by rw [typeLookup_type, builtinLookup_eq_fast]; kernel_rfl) (by decide +kernel) (by decide +kernel) (by decide +kernel)
    (by first | exact .inl (by decide +kernel) | exact .inr (by decide +kernel)) (by rw [isSubtype_type]; kernel_rfl)
theorem called : TypeCalled "bytearray" "bytearray.__new__" "bytearray.__init__" :=
  ⟨by decide +kernel, by decide +kernel, ⟨_, _, mro_ba⟩, madeBy_type mro_ba lookup_new (by decide +kernel), by decide +kernel, by rw [isSubtype_type]; kernel_rfl, slot_init⟩
theorem typeCall (a : Value) : checkTypeCall "bytearray" ⟨[a], []⟩ = pure () := by kernel_rfl
theorem newCall (a : Value) : checkBuiltinCall "bytearray.__new__" ⟨[.type "bytearray", a], []⟩ = pure () := by kernel_rfl
theorem entry_new : entryFor table "bytearray.__new__" = some Builtin.«list.__new__» := entryFor_alias (id' := "list.__new__") (by kernel_rfl) rfl (by decide +kernel) (by kernel_rfl)
theorem plain_new : plainId "bytearray.__new__" = true := by decide +kernel
theorem entry_init : entryFor table "bytearray.__init__" = some Builtin.«bytearray.__init__» := entryFor_of_tree (by kernel_rfl)
theorem args_init (a b : Value) : argsOk "bytearray.__init__" ⟨[a, b], []⟩ := by unfold argsOk; kernel_rfl
theorem bind_init (v : Value) : Builtin.Bytes.bindOptional "bytearray.__init__" "bytearray" ["source", "encoding", "errors"] [v] [] = pure [some v, none, none] := by kernel_rfl
set_option maxHeartbeats 4000000 in
theorem owner_new : ("bytearray.__new__".splitOn ".__new__").headD "" = "bytearray" := by simp +decide [String.splitOn, String.splitOnAux]
end BF
section
variable {prog : Program} {w : World} {A : Around} {E : Value → Shared → Prop} {s : Shared}
theorem code_ba_new (a : Value) {Q₁ : Value → Shared → Prop} (h : Q₁ (.ref s.heap.objs.size) { s with heap := s.heap.push (baObj []) }) :
    codeAny (model prog w) A (.call (.builtin "bytearray.__new__") ⟨[.type "bytearray", a], []⟩) (wants Q₁ E) s := by
  refine codeAny_of_tree ?_
  show wpAny _ A.in1 (do checkBuiltinCall "bytearray.__new__" ⟨[.type "bytearray", a], []⟩; again (.builtin "bytearray.__new__" ⟨[.type "bytearray", a], []⟩)) _ _ s
  refine wpAny_bind (wpAny_of_eq (BF.newCall a) (wpAny_pure ⟨plainId_quiet BF.plain_new _, codeAny_builtin_stack BF.entry_new rfl fun p st => ?_⟩))
  rw [Around.under_plainId BF.plain_new _]
  have hsub := F.sub_bytearray_bytearray
  have hown := BF.owner_new
  obtain ⟨hp, g, d, tk, os⟩ := s
  simp only [hown]
  wp_walk
  exact h
end
end Mine
end
section
open PySem PySem.W PyProof.Rows PySem.Builtin
set_option Elab.async false
namespace Mine
set_option maxRecDepth 100000
theorem BF.bytes_no_index : typeLookup (.type "bytes") "__index__" = pure none := by rw [typeLookup_type, builtinLookup_eq_fast]; kernel_rfl
theorem ownRelease_ba {M : Model} {A : Around} {E : Value → Shared → Prop} {s : Shared} {b : Addr} {d : List UInt8} {Q : Bool → Shared → Prop} (h : s.heap.get? b = some (baObj d)) (hQ : Q false s) : wpAny M A (Bytes.ownRelease (.ref b)) Q E s := by
  unfold Bytes.ownRelease Bytes.slotIsOwn
  refine wpAny_bind (wpAny_bind (wpAny_specialOf (ba_typeIs h) BF.release_ba ?_))
  dsimp only
  refine bm_if_false (by decide +kernel) ?_
  have e : ("bytearray.__release_buffer__".dropRight ("__release_buffer__".length + 1)) = "bytearray" := by decide +kernel
  rw [e]
  exact wpAny_isInstance (ba_typeIs h) F.sub_bytearray_bytearray (wpAny_pure hQ)
theorem ownRelease_bytes {M : Model} {A : Around} {E : Value → Shared → Prop} {s : Shared} {x : Array UInt8} {t : Tok} {Q : Bool → Shared → Prop} (hQ : Q false s) : wpAny M A (Bytes.ownRelease (.bytes x t)) Q E s := by
  unfold Bytes.ownRelease Bytes.slotIsOwn
  refine wpAny_bind (wpAny_bind (wpAny_specialOf (typeIs_bytes s x t) KBy.look_release ?_))
  exact wpAny_pure (wpAny_pure hQ)
theorem buffer_of_bytes {M : Model} {A : Around} {E : Value → Shared → Prop} {s : Shared} {x : Array UInt8} {t : Tok} {id : String} {full : Bool} {Q : Option (Array UInt8) → Shared → Prop} (hQ : Q (some x) s) : wpAny M A (Bytes.buffer? id (.bytes x t) full) Q E s := by
  unfold Bytes.buffer?
  refine wpAny_bind (wpAny_specialOf (typeIs_bytes s x t) KBy.look_buffer ?_)
  dsimp only
  refine wpAny_bind ?_
  unfold Bytes.slotIsOwn
  refine wpAny_bind (wpAny_specialOf (typeIs_bytes s x t) KBy.look_buffer ?_)
  dsimp only
  refine bm_if_false (by decide +kernel) ?_
  have e : ("bytes.__buffer__".dropRight ("__buffer__".length + 1)) = "bytes" := by decide +kernel
  rw [e]
  refine wpAny_isInstance (typeIs_bytes s x t) F.bm_sub ?_
  refine bm_if_false rfl ?_
  refine wpAny_bind (wpAny_specialOf (typeIs_bytes s x t) KBy.look_buffer ?_)
  refine wpAny_bind (ownRelease_bytes ?_)
  refine bm_if_false rfl ?_
  exact wpAny_bind (payload_bytes (wpAny_pure hQ))
theorem buffer_of_ba {M : Model} {A : Around} {E : Value → Shared → Prop} {s : Shared} {b : Addr} {d : List UInt8} {id : String} {full : Bool} {Q : Option (Array UInt8) → Shared → Prop} (h : s.heap.get? b = some (baObj d)) (hQ : Q (some d.toArray) s) : wpAny M A (Bytes.buffer? id (.ref b) full) Q E s := by
  unfold Bytes.buffer?
  refine wpAny_bind (wpAny_specialOf (ba_typeIs h) BF.buffer_ba ?_)
  dsimp only
  refine wpAny_bind ?_
  unfold Bytes.slotIsOwn
  refine wpAny_bind (wpAny_specialOf (ba_typeIs h) BF.buffer_ba ?_)
  dsimp only
  refine bm_if_false (by decide +kernel) ?_
  have e : ("bytearray.__buffer__".dropRight ("__buffer__".length + 1)) = "bytearray" := by decide +kernel
  rw [e]
  refine wpAny_isInstance (ba_typeIs h) F.sub_bytearray_bytearray ?_
  refine bm_if_false rfl ?_
  refine wpAny_bind (wpAny_specialOf (ba_typeIs h) BF.buffer_ba ?_)
  refine wpAny_bind (ownRelease_ba h ?_)
  refine bm_if_false rfl ?_
  exact wpAny_bind (payload_ba h (wpAny_pure hQ))
theorem not_exported {M : Model} {A : Around} {E : Value → Shared → Prop} {s : Shared} {b : Addr} {d : List UInt8} {Q : Bool → Shared → Prop} (hg : A.guards = some []) (h : s.heap.get? b = some (baObj d)) (hQ : Q false s) :
    wpC M A (Bytes.exported (.ref b) <||> (do return (← Bytes.exportsOf (.ref b)) > 0)) Q E s := by
  unfold orM
  refine wpC_bind (exported_false hg ?_)
  show wpC M A (do let x ← Bytes.exportsOf (.ref b); pure (decide (x > 0))) Q E s
  refine wpC_bindA ?_
  unfold Bytes.exportsOf
  refine wpAny_bind (wpAny_load h ?_)
  exact wpAny_pure (wpC_pure hQ)
section
variable {prog : Program} {w : World} {A : Around} {E : Value → Shared → Prop} {s : Shared}
theorem init_int {b : Addr} {n : Int} {t : Tok} {Q : Fin → Shared → Prop} (hg : A.guards = some []) (h : s.heap.get? b = some (baObj [])) (h0 : 0 ≤ n) (h1 : n ≤ 16777216)
    (hQ : ∀ h', h'.get? b = some (baObj (List.replicate n.toNat 0)) → Heap.SameBut b s.heap h' → Q (.done (.ret .none)) { s with heap := h' }) : wpC (model prog w) A (Builtin.«bytearray.__init__» ⟨[.ref b, .int n t], []⟩) Q E s := by
  unfold Builtin.«bytearray.__init__»
  dsimp only
  refine wpC_bindA (ownRelease_ba h ?_)
  refine wpC_ifn rfl ?_
  refine wpC_bindA (wpAny_of_eq (BF.bind_init _) ?_)
  dsimp only
  refine wpC_bindA (wpAny_of_eq (a := ()) rfl ?_)
  refine wpC_bindA (wpAny_of_eq (a := ()) rfl ?_)
  refine wpC_bind (not_exported (d := []) hg h ?_)
  refine wpC_ifn rfl ?_
  refine wpC_bindA (write_ba (d' := []) h rfl (Nat.zero_le _) fun g hgd => ?_)
  have h2 : (s.heap.update b g).get? b = some (baObj []) := by
    rw [← hgd]
    exact Heap.get?_update_self g h (by rw [hgd]; rfl)
  refine wpC_bindA (wpAny_of_eq (a := none) rfl ?_)
  refine wpC_ifn rfl ?_
  refine wpC_bindA (wpAny_of_eq (a := ()) rfl ?_)
  refine wpC_bindA (wpAny_specialOf (T := "int") (typeIs_int _ _ _) F.slot_int_index.lookup ?_)
  refine wpC_ifp rfl ?_
  refine wpC_bindA (wpAny_attempt (wpAny_of_eq (rfl : asIndex (.int n t) = pure n) ?_))
  dsimp only
  refine wpC_ifn (by simp only [Bytes.fitsIndex, Bool.not_eq_false', Bool.and_eq_true, decide_eq_true_eq]; omega) ?_
  refine wpC_ifN (by omega) ?_
  refine wpC_ifn (by simp only [beq_eq_false_iff_ne, ne_eq]; omega) ?_
  refine wpC_ifn (by simp only [Bytes.tooLong, decide_eq_false_iff_not, sizeLine_eq]; omega) ?_
  refine wpC_bindA (wpAny_rule ?_)
  by_cases hn : n > 0
  · refine wpC_ifP hn ?_
    refine wpC_bindA (write_ba (d' := List.replicate n.toNat 0) h2 (by simp) (by rw [List.length_replicate, sizeLine_eq]; omega) fun g' hg' => ?_)
    refine wpC_pure (hQ _ ?_ ((Heap.SameBut.update ..).trans (Heap.SameBut.update ..)))
    rw [← hg']
    exact Heap.get?_update_self g' h2 (by rw [hg']; rfl)
  · refine wpC_ifN hn ?_
    refine wpC_pure (hQ _ ?_ (Heap.SameBut.update ..))
    rw [show n.toNat = 0 by omega]
    exact h2
theorem init_bytes {b : Addr} {x : List UInt8} {t : Tok} {Q : Fin → Shared → Prop} (hg : A.guards = some []) (h : s.heap.get? b = some (baObj [])) (h1 : x.length ≤ sizeLine)
    (hQ : ∀ h', h'.get? b = some (baObj x) → Heap.SameBut b s.heap h' → Q (.done (.ret .none)) { s with heap := h' }) : wpC (model prog w) A (Builtin.«bytearray.__init__» ⟨[.ref b, .bytes x.toArray t], []⟩) Q E s := by
  unfold Builtin.«bytearray.__init__»
  dsimp only
  refine wpC_bindA (ownRelease_ba h ?_)
  refine wpC_ifn rfl ?_
  refine wpC_bindA (wpAny_of_eq (BF.bind_init _) ?_)
  dsimp only
  refine wpC_bindA (wpAny_of_eq (a := ()) rfl ?_)
  refine wpC_bindA (wpAny_of_eq (a := ()) rfl ?_)
  refine wpC_bind (not_exported (d := []) hg h ?_)
  refine wpC_ifn rfl ?_
  refine wpC_bindA (write_ba (d' := []) h rfl (Nat.zero_le _) fun g hgd => ?_)
  have h2 : (s.heap.update b g).get? b = some (baObj []) := by
    rw [← hgd]
    exact Heap.get?_update_self g h (by rw [hgd]; rfl)
  refine wpC_bindA (wpAny_of_eq (a := none) rfl ?_)
  refine wpC_ifn rfl ?_
  refine wpC_bindA (wpAny_of_eq (a := ()) rfl ?_)
  refine wpC_bindA (wpAny_specialOf (T := "bytes") (typeIs_bytes _ _ _) BF.bytes_no_index ?_)
  refine wpC_ifn rfl ?_
  refine wpC_bindA (buffer_of_bytes ?_)
  dsimp only
  refine wpC_bindA (wpAny_rule ?_)
  refine wpC_bindA (write_ba (d' := x) h2 (by simp) h1 fun g' hg' => ?_)
  refine wpC_pure (hQ _ ?_ ((Heap.SameBut.update ..).trans (Heap.SameBut.update ..)))
  rw [← hg']
  exact Heap.get?_update_self g' h2 (by rw [hg']; rfl)

theorem clean_type_call (args : Args) : dirty (.builtin "type.__call__" args) = false := by
  show Bytes.decodersThatHold.contains "type.__call__" = false
  decide +kernel
theorem clean_ba_init (args : Args) : dirty (.builtin "bytearray.__init__" args) = false := by
  show Bytes.decodersThatHold.contains "bytearray.__init__" = false
  decide +kernel
/-- bytearray(v): the type's call around __init__ -/
theorem callC_bytearray {v : Value} {Q : Value → Shared → Prop}
    (hinit : wpC (model prog w) A.in1.in1 (Builtin.«bytearray.__init__» ⟨[.ref s.heap.objs.size, v], []⟩) (fun fin s' => fin = .done (.ret .none) ∧ s'.TypeIs (.ref s.heap.objs.size) "bytearray" ∧ Q (.ref s.heap.objs.size) s') E { s with heap := s.heap.push (baObj []) }) :
    wpC (model prog w) A (call (.type "bytearray") [v]) Q E s := by
  refine wpC_call (codeC_of_treeA ?_)
  show wpAny _ _ (callAny (.type "bytearray") _) _ _ _
  refine wpAny_pure ⟨Code.quiet_builtin _ (by decide +kernel), codeC_builtin (clean_type_call _) F.entry_type_call ?_⟩
  rw [Around.under_plain (weight_type_call_type "bytearray" [v] []) rfl]
  unfold Builtin.«type.__call__»
  dsimp only
  refine wpC_ifn BF.called.notType ?_
  refine wpC_ifn BF.called.canCreate ?_
  refine wpC_bindA (wpAny_of_eq (BF.typeCall v) ?_)
  obtain ⟨c, tl, hmro⟩ := BF.called.mro
  refine wpC_bindA (wpAny_of_eq hmro ?_)
  refine wpC_ifn rfl ?_
  refine wpC_bindA (wpAny_of_eq BF.called.made ?_)
  dsimp only
  refine wpC_bindA (wpAny_of_eq (a := Value.builtin "bytearray.__new__") rfl ?_)
  refine wpC_bindA (wpAny_holding (wpAny_call (codeAny_mono (code_ba_new (A := A.in1) (E := E) v (Q₁ := fun r s₁ => r = .ref s.heap.objs.size ∧ s₁ = { s with heap := s.heap.push (baObj []) }) ⟨rfl, rfl⟩) ?_)))
  intro r s₁ hr
  cases r with
  | error e => exact hr
  | ok fl =>
    cases fl with
    | ret o =>
      obtain ⟨rfl, rfl⟩ := hr
      have hb : (s.heap.push (baObj [])).get? s.heap.objs.size = some (baObj []) := Heap.get?_push_size _ rfl
      refine wpC_bindA (wpAny_isInstance (T := "bytearray") ⟨_, hb, rfl⟩ F.sub_bytearray_bytearray ?_)
      refine wpC_ifn rfl ?_
      refine wpC_bind (wpC_holding (callSpecialC (T := "bytearray") ⟨_, hb, rfl⟩ BF.slot_init (callC_slot BF.slot_init ⟨_, hb, rfl⟩ BF.entry_init (BF.args_init _ _) (clean_ba_init _) (wpC_mono hinit ?_ fun _ _ x => x))))
      rintro fin s' ⟨rfl, hT, hq⟩
      refine ⟨_, rfl, ?_⟩
      dsimp only
      refine wpC_ifn (by decide) ?_
      exact wpC_pure hq
    | _ => exact hr.elim
theorem callC_ba_int {n : Int} {t : Tok} {Q : Value → Shared → Prop} (hg : A.guards = some []) (h0 : 0 ≤ n) (h1 : n ≤ 16777216)
    (hQ : ∀ h', h'.get? s.heap.objs.size = some (baObj (List.replicate n.toNat 0)) → Heap.SameBut s.heap.objs.size (s.heap.push (baObj [])) h' → Q (.ref s.heap.objs.size) { s with heap := h' }) : wpC (model prog w) A (call (.type "bytearray") [.int n t]) Q E s :=
  callC_bytearray (init_int hg (Heap.get?_push_size _ rfl) h0 h1 fun h' e k => ⟨rfl, ⟨_, e, rfl⟩, hQ h' e k⟩)
theorem callC_ba_bytes {x : List UInt8} {t : Tok} {Q : Value → Shared → Prop} (hg : A.guards = some []) (h1 : x.length ≤ sizeLine)
    (hQ : ∀ h', h'.get? s.heap.objs.size = some (baObj x) → Heap.SameBut s.heap.objs.size (s.heap.push (baObj [])) h' → Q (.ref s.heap.objs.size) { s with heap := h' }) : wpC (model prog w) A (call (.type "bytearray") [.bytes x.toArray t]) Q E s :=
  callC_bytearray (init_bytes hg (Heap.get?_push_size _ rfl) h1 fun h' e k => ⟨rfl, ⟨_, e, rfl⟩, hQ h' e k⟩)
end
end Mine
end
section
open PySem PySem.W PyProof.Rows PySem.Builtin
set_option Elab.async false
namespace Mine
set_option maxRecDepth 100000
theorem BF.bytes_no_int : typeLookup (.type "bytes") "__int__" = pure none := by rw [typeLookup_type, builtinLookup_eq_fast]; kernel_rfl
theorem BF.bytes_no_float : typeLookup (.type "bytes") "__float__" = pure none := by rw [typeLookup_type, builtinLookup_eq_fast]; kernel_rfl
theorem clean_ba_setitem (args : Args) : dirty (.builtin "bytearray.__setitem__" args) = false := by
  show Bytes.decodersThatHold.contains "bytearray.__setitem__" = false
  decide +kernel
theorem clean_ba_extend (args : Args) : dirty (.builtin "bytearray.extend" args) = false := by
  show Bytes.decodersThatHold.contains "bytearray.extend" = false
  decide +kernel
section
variable {prog : Program} {w : World} {A : Around} {E : Value → Shared → Prop} {s : Shared}
theorem slice_keeps {h h' : Heap} {a : Addr} {l u st : Value} (hs : h.IsSliceOf a l u st) (k : ∀ o, h.get? a = some o → h'.get? a = some o) : h'.IsSliceOf a l u st := by
  obtain ⟨o, ho, r⟩ := hs
  exact ⟨o, k o ho, r⟩
theorem setslice_bytes {b a : Addr} {d new : List UInt8} {lo hi : Int} {t1 t2 t : Tok} {Q : Fin → Shared → Prop} (hg : A.guards = some []) (h0 : 0 ≤ lo) (h1 : lo ≤ hi) (h2 : hi ≤ d.length) (hn : (new.length : Int) = hi - lo) (hz : d.length ≤ sizeLine)
    (h : s.heap.get? b = some (baObj d)) (hs : s.heap.IsSliceOf a (.int lo t1) (.int hi t2) .none)
    (hQ : ∀ h', h'.get? b = some (baObj (paste d lo.toNat new)) → (∀ c o, c ≠ b → s.heap.get? c = some o → h'.get? c = some o) → Q (.done (.ret .none)) { s with heap := h' }) :
    wpC (model prog w) A («bytearray.__setitem__» ⟨[.ref b, .ref a, .bytes new.toArray t], []⟩) Q E s := by
  show wpC _ _ (Bytes.subscript? (.ref a) >>= fun r => _) _ _ s
  refine wpC_bindA (subscript_slice hs ?_)
  dsimp only
  refine wpC_bindA (wpAny_typeOf (slice_typeIs hs) ?_)
  refine wpC_ifn (by decide) ?_
  refine wpC_bindA (sliceParts_ints hs ?_)
  dsimp only
  refine wpC_ifn rfl ?_
  refine wpC_bindA (wpAny_isInstance (T := "bytes") (typeIs_bytes _ _ _) F.sub_bytes_bytearray ?_)
  refine wpC_ifp rfl ?_
  refine wpC_bindA (m := (_ <||> _)) ?_
  · unfold orM
    refine wpAny_bind (wpAny_bind (wpAny_specialOf (T := "bytes") (typeIs_bytes _ _ _) BF.bytes_no_index (wpAny_pure ?_)))
    show wpAny _ _ (orM _ _) _ _ _
    unfold orM
    refine wpAny_bind (wpAny_bind (wpAny_specialOf (T := "bytes") (typeIs_bytes _ _ _) BF.bytes_no_int (wpAny_pure ?_)))
    show wpAny _ _ (orM _ _) _ _ _
    unfold orM
    refine wpAny_bind (wpAny_bind (wpAny_specialOf (T := "bytes") (typeIs_bytes _ _ _) BF.bytes_no_float (wpAny_pure ?_)))
    show wpAny _ _ (isInstance _ _) _ _ _
    refine wpAny_isInstance (T := "bytes") (typeIs_bytes _ _ _) F.sub_bytes_complex ?_
    refine wpC_bindA (wpAny_of_eq (a := none) rfl ?_)
    refine wpC_ifn rfl ?_
    refine wpC_bindA (wpAny_rule ?_)
    have hlt : b < s.heap.objs.size := Heap.lt_size h
    refine wpC_bind (callC_ba_bytes hg (by omega) fun h' e k => ?_)
    have keep : ∀ c o, s.heap.get? c = some o → h'.get? c = some o := fun c o hc => k.extBut c o (Nat.ne_of_lt (Heap.lt_size hc)) (Heap.get?_push_of_some _ hc)
    have hb' := keep _ _ h
    have hs' := slice_keeps hs fun o ho => keep a o ho
    refine wpC_bindA (wpAny_holding (sliceParts_ints hs' ?_))
    dsimp only
    refine wpC_bindA (payload_ba e ?_)
    refine wpC_bindA (payload_ba hb' ?_)
    refine wpC_bindA (wpAny_of_eq (sliceIndices_raw (some lo) (some hi) none _ (fun e => nomatch e)) ?_)
    rw [List.size_toArray, bounds_of h0 h1 h2]
    dsimp only
    refine wpC_ifp (by decide) ?_
    refine wpC_bindA (wpAny_rule ?_)
    refine wpC_ifn (by rw [List.size_toArray, show max lo hi = hi by omega, hn]; exact bne_self_eq_false _) ?_
    refine wpC_bindA (write_ba (d' := paste d lo.toNat new) hb' (paste_array h0 h1 h2 hn) (by rw [paste_length (by omega)]; exact hz) fun g hgd => ?_)
    refine wpC_pure (hQ _ ?_ fun c o hc ho => ?_)
    · rw [← hgd]
      exact Heap.get?_update_self g hb' (by rw [hgd]; rfl)
    · exact (Heap.get?_update_other _ _ (Ne.symm hc)).trans (keep c o ho)

theorem extend_bytes {b : Addr} {d new : List UInt8} {t : Tok} {Q : Fin → Shared → Prop} (hg : A.guards = some []) (h : s.heap.get? b = some (baObj d)) (hz : d.length + new.length ≤ sizeLine)
    (hQ : ∀ g : Obj → Obj, g (baObj d) = baObj (d ++ new) → Q (.done (.ret .none)) { s with heap := s.heap.update b g }) :
    wpC (model prog w) A («bytearray.extend» ⟨[.ref b, .bytes new.toArray t], []⟩) Q E s := by
  unfold «bytearray.extend»
  dsimp only
  refine wpC_bindA (wpAny_of_eq (a := (Value.ref b, Value.bytes new.toArray t)) rfl ?_)
  dsimp only
  refine wpC_bindA (wpAny_specialOf (T := "bytes") (typeIs_bytes _ _ _) KBy.look_buffer ?_)
  refine wpC_ifp rfl ?_
  refine wpC_bindA (wpAny_rule ?_)
  refine wpC_bindA (payload_ba h ?_)
  refine wpC_bindA (m := Bytes.takeBufferQuiet? _ _ _) ?_
  unfold Bytes.takeBufferQuiet? Bytes.takeBuffer?
  refine wpAny_bind (wpAny_attempt ?_)
  refine wpAny_bind (wpAny_specialOf (T := "bytes") (typeIs_bytes _ _ _) KBy.look_buffer ?_)
  dsimp only
  unfold Bytes.slotIsOwn
  refine wpAny_bind (wpAny_bind (wpAny_specialOf (T := "bytes") (typeIs_bytes _ _ _) KBy.look_buffer ?_))
  dsimp only
  refine bm_if_false (by decide +kernel) ?_
  have e : ("bytes.__buffer__".dropRight ("__buffer__".length + 1)) = "bytes" := by decide +kernel
  rw [e]
  refine wpAny_isInstance (T := "bytes") (typeIs_bytes _ _ _) F.bm_sub ?_
  refine bm_if_false rfl ?_
  refine wpAny_bind (wpAny_specialOf (T := "bytes") (typeIs_bytes _ _ _) KBy.look_buffer ?_)
  refine wpAny_bind (buffer_of_bytes (wpAny_pure (wpAny_pure ?_)))
  show wpC _ _ (do
    if !new.toArray.isEmpty then Bytes.checkResize (.ref b)
    Bytes.write (.ref b) (· ++ new.toArray)
    ret .none) _ _ _
  have tail : wpC (model prog w) A (do Bytes.write (.ref b) (· ++ new.toArray); ret .none) Q E s := by
    refine wpC_bindA (write_ba (d' := d ++ new) h (by simp) (by rw [List.length_append]; exact hz) fun g hgd => ?_)
    exact wpC_pure (hQ g hgd)
  cases hne : (!new.toArray.isEmpty) with
  | false => exact wpC_ifn rfl tail
  | true =>
    refine wpC_ifp rfl (wpC_bind ?_)
    unfold Bytes.checkResize
    refine wpC_bind (not_exported hg h ?_)
    exact wpC_ifn rfl (wpC_pure tail)
end
end Mine
end
section
open PySem PySem.W PyProof.Rows PySem.Builtin
set_option Elab.async false
namespace Mine
set_option maxRecDepth 100000
theorem BF.int_no_bytes : typeLookup (.type "int") "__bytes__" = pure none := by rw [typeLookup_type, builtinLookup_eq_fast]; kernel_rfl
section
variable {prog : Program} {w : World} {A : Around} {E : Value → Shared → Prop} {s : Shared}
theorem new_of_ba {b : Addr} {d : List UInt8} {Q : Value → Shared → Prop} (h : s.heap.get? b = some (baObj d)) (hz : d.length ≤ sizeLine) (hQ : Q (.bytes d.toArray s.toks) { s with toks := s.toks + 1 }) :
    codeAny (model prog w) A (.call (.builtin "bytes.__new__") ⟨[.type "bytes", .ref b], []⟩) (wants Q E) s := by
  refine codeAny_of_tree ?_
  show wpAny _ A.in1 (do checkBuiltinCall "bytes.__new__" ⟨[.type "bytes", .ref b], []⟩; again (.builtin "bytes.__new__" ⟨[.type "bytes", .ref b], []⟩)) _ _ s
  refine wpAny_bind (wpAny_of_eq (F.bm_newCall _) (wpAny_pure ⟨plainId_quiet F.bm_plain _, codeAny_builtin F.bm_entry ?_⟩))
  rw [Around.under_plainId F.bm_plain _]
  have hT := ba_typeIs h
  unfold Builtin.«bytes.__new__»
  refine wpAny_bind (wpAny_of_eq (a := true) rfl ?_)
  refine bm_if_false rfl ?_
  refine wpAny_bind (wpAny_of_eq F.bm_sub ?_)
  refine bm_if_false rfl ?_
  refine wpAny_bind (wpAny_of_eq (F.bm_bind _) ?_)
  refine wpAny_bind (wpAny_of_eq (a := ()) rfl ?_)
  refine wpAny_bind (wpAny_of_eq (a := ()) rfl ?_)
  refine bm_if_false rfl ?_
  refine wpAny_bind (wpAny_specialOf hT BF.ba_no_bytes ?_)
  refine wpAny_bind (wpAny_bind ?_)
  show wpAny _ _ (load b >>= _) _ _ _
  refine wpAny_bind (wpAny_load h ?_)
  refine wpAny_pure (wpAny_pure ?_)
  refine bm_if_false rfl ?_
  refine wpAny_bind (wpAny_specialOf hT BF.ba_no_index ?_)
  refine bm_if_true rfl ?_
  show wpAny _ _ (Builtin.Bytes.buffer? "bytes.__new__" (.ref b) true >>= _) _ _ _
  refine wpAny_bind (buffer_of_ba h ?_)
  dsimp only
  refine wpAny_bind (wpAny_rule ?_)
  refine wpAny_bind (wpAny_mkBytes ?_ (by rw [List.size_toArray]; exact hz))
  show wpAny _ _ (if (Value.type "bytes" == Value.type "bytes") = true then _ else _) _ _ _
  exact bm_if_true (by decide) (wpAny_pure hQ)
theorem new_of_count {n : Int} {t : Tok} {Q : Value → Shared → Prop} (h0 : 0 ≤ n) (h1 : n ≤ 16777216) (hQ : Q (.bytes (List.replicate n.toNat 0).toArray s.toks) { s with toks := s.toks + 1 }) :
    codeAny (model prog w) A (.call (.builtin "bytes.__new__") ⟨[.type "bytes", .int n t], []⟩) (wants Q E) s := by
  refine codeAny_of_tree ?_
  show wpAny _ A.in1 (do checkBuiltinCall "bytes.__new__" ⟨[.type "bytes", .int n t], []⟩; again (.builtin "bytes.__new__" ⟨[.type "bytes", .int n t], []⟩)) _ _ s
  refine wpAny_bind (wpAny_of_eq (F.bm_newCall _) (wpAny_pure ⟨plainId_quiet F.bm_plain _, codeAny_builtin F.bm_entry ?_⟩))
  rw [Around.under_plainId F.bm_plain _]
  unfold Builtin.«bytes.__new__»
  refine wpAny_bind (wpAny_of_eq (a := true) rfl ?_)
  refine bm_if_false rfl ?_
  refine wpAny_bind (wpAny_of_eq F.bm_sub ?_)
  refine bm_if_false rfl ?_
  refine wpAny_bind (wpAny_of_eq (F.bm_bind _) ?_)
  refine wpAny_bind (wpAny_of_eq (a := ()) rfl ?_)
  refine wpAny_bind (wpAny_of_eq (a := ()) rfl ?_)
  refine bm_if_false rfl ?_
  refine wpAny_bind (wpAny_specialOf (T := "int") (typeIs_int _ _ _) BF.int_no_bytes ?_)
  dsimp only
  refine wpAny_bind (wpAny_of_eq (a := false) rfl ?_)
  refine bm_if_false rfl ?_
  refine wpAny_bind (wpAny_specialOf (T := "int") (typeIs_int _ _ _) F.slot_int_index.lookup ?_)
  refine bm_if_false rfl ?_
  refine wpAny_bind (wpAny_attempt (wpAny_of_eq (rfl : asIndex (.int n t) = pure n) ?_))
  dsimp only
  refine bm_if_false (by simp only [Bytes.fitsIndex, Bool.not_eq_false', Bool.and_eq_true, decide_eq_true_eq]; omega) ?_
  rw [if_neg (show ¬ n < 0 by omega), if_neg (show ¬ n > 2 ^ 63 - 34 by omega)]
  refine bm_if_false (by simp only [Bytes.tooLong, decide_eq_false_iff_not, sizeLine_eq]; omega) ?_
  refine wpAny_bind (wpAny_rule ?_)
  refine wpAny_bind (wpAny_mkBytes ?_ (by rw [Array.size_replicate, sizeLine_eq]; omega))
  show wpAny _ _ (if (Value.type "bytes" == Value.type "bytes") = true then _ else _) _ _ _
  refine bm_if_true (by decide) (wpAny_pure ?_)
  rw [show (Array.replicate n.toNat (0 : UInt8)) = (List.replicate n.toNat (0 : UInt8)).toArray by simp]
  exact hQ
theorem call_bytes_ba {b : Addr} {d : List UInt8} {Q : Value → Shared → Prop} (h : s.heap.get? b = some (baObj d)) (hz : d.length ≤ sizeLine) (hQ : ∀ t k, Q (.bytes d.toArray t) { s with toks := k }) : wpAny (model prog w) A (call (.type "bytes") [.ref b]) Q E s := by
  refine callType_codes (Q₁ := fun obj s₁ => s₁.TypeIs obj "bytes" ∧ Q obj s₁) F.bm_called (F.bm_typeCall _) F.entry_object_init (new_of_ba h hz ⟨PySem.W.typeIs_bytes _ _ _, hQ _ _⟩) fun obj s₁ h₁ => ?_
  exact ⟨h₁.1, F.args_object_init_2 obj _, object_init_meets F.bm_called.init.lookup F.bm_called.made (by decide) prog w A.in1 _ s₁ ⟨h₁.1, rfl, h₁.2⟩⟩
theorem call_bytes_count {n : Int} {tn : Tok} {Q : Value → Shared → Prop} (h0 : 0 ≤ n) (h1 : n ≤ 16777216) (hQ : ∀ t k, Q (.bytes (List.replicate n.toNat 0).toArray t) { s with toks := k }) : wpAny (model prog w) A (call (.type "bytes") [.int n tn]) Q E s := by
  refine callType_codes (Q₁ := fun obj s₁ => s₁.TypeIs obj "bytes" ∧ Q obj s₁) F.bm_called (F.bm_typeCall _) F.entry_object_init (new_of_count h0 h1 ⟨PySem.W.typeIs_bytes _ _ _, hQ _ _⟩) fun obj s₁ h₁ => ?_
  exact ⟨h₁.1, F.args_object_init_2 obj _, object_init_meets F.bm_called.init.lookup F.bm_called.made (by decide) prog w A.in1 _ s₁ ⟨h₁.1, rfl, h₁.2⟩⟩
end
end Mine
end
section
open PySem PySem.W PyProof.Rows
set_option Elab.async false
namespace Mine
set_option maxRecDepth 100000
abbrev excO (C t : Addr) (dd : Option Addr) : Obj := { cls := .ref C, dict := dd, data := .fields #[.ref t, .none, .none, .none, .bool false, .none] }
abbrev tupO (vs : List Value) : Obj := { cls := .type "tuple", data := .seq vs.toArray }
/-- a fault on its way, its dict at dx: the frames l lie over base -/
def ExcUp (base : Heap) (l : List Env) (e C dx : Addr) (fl : Value) (h : Heap) : Prop :=
  base.StaysIn h ∧ base.get? e = none ∧ h.FunFrames base l ∧ ∃ oe vs, h.get? e = some oe ∧ oe.cls = .ref C ∧ oe.dict = some dx ∧ oe.data = .fields vs ∧
    ∃ T oT ts, vs[1]? = some (.ref T) ∧ base.get? T = none ∧ T ≠ e ∧ h.get? T = some oT ∧ oT.data = .fields ts ∧ ts[3]? = some fl
theorem Obj.dict_mapFields' (o : Obj) (f : Array Value → Array Value) : (Obj.mapFields f o).dict = o.dict := by
  obtain ⟨c, d, dt, sl⟩ := o; cases dt <;> rfl
/-- what base holds stays, and whoever has no fields changes its slots alone -/
structure Goes (base h h' : Heap) : Prop where
  stay : base.StaysIn h → base.StaysIn h'
  up : h.UpToSlots h'
namespace Goes
variable {base h h' h'' : Heap}
theorem trans (x : Goes base h h') (y : Goes base h' h'') : Goes base h h'' := ⟨fun k => y.stay (x.stay k), x.up.trans y.up⟩
theorem frames {l : List Env} (x : Goes base h h') (hl : h.FunFrames base l) : h'.FunFrames base l := hl.of_keeps fun b o hb hn => let ⟨_, e⟩ := x.up b o hb hn; ⟨_, e, rfl⟩
theorem push (o : Obj) : Goes base h (h.push o) := ⟨fun k b p e => Heap.get?_push_of_some o (k b p e), .of_keeps fun _ _ e => Heap.get?_push_of_some o e⟩
/-- a new object with fields is written -/
theorem field {a : Addr} {o : Obj} {vs : Array Value} (f : Array Value → Array Value) (ha : h.get? a = some o) (hd : o.data = .fields vs) (hn : base.get? a = none) : Goes base h (h.update a (Obj.mapFields f)) :=
  ⟨fun k b p e => (Heap.get?_update_other _ _ fun q => by subst q; rw [hn] at e; cases e).trans (k b p e),
   fun b p e hp => ⟨p.slots, (Heap.get?_update_other _ _ fun q => by subst q; exact hp vs (Option.some.inj (ha.symm.trans e) ▸ hd)).trans e⟩⟩
/-- frames are looked at -/
theorem slots {l : List Env} (hl : h.FunFrames base l) (x : Heap.SlotsOnly (l.filterMap (·.frame)) h h') : Goes base h h' :=
  ⟨fun k b p e => (x.2.1 b fun hm => by rw [(hl.mem hm).1] at e; cases e).trans (k b p e), fun b p e _ => x.2.2 b p e⟩
end Goes
theorem field_self {h : Heap} {a : Addr} {o : Obj} {vs : Array Value} (f : Array Value → Array Value) (ha : h.get? a = some o) (hd : o.data = .fields vs) : (h.update a (Obj.mapFields f)).get? a = some (Obj.mapFields f o) :=
  Heap.get?_update_self _ ha (Obj.isFreed_of_fields (Obj.data_mapFields hd f))
section
variable {M : Model} {A : Around} {E : Value → Shared → Prop} {s : Shared} {base : Heap} {env : Env} {outer l : List Env} {L e C dx : Addr} {Q : Unit → Shared → Prop}
theorem entryM {oe : Obj} {vs : Array Value} {head : Value} {hadNext : Bool}
    (hfr : A.frames = some (env :: outer)) (hl : s.heap.FunFrames base (env :: outer)) (hf : env.frame = some L)
    (he : s.heap.get? e = some oe) (hkb : base.StaysIn s.heap) (hen : base.get? e = none) (hc : oe.cls = .ref C) (hx : oe.dict = some dx) (hd : oe.data = .fields vs) (hsz : 1 < vs.size)
    (h : ∀ h', ExcUp base (env :: outer) e C dx (rawInt L) h' → Goes base s.heap h' → Q () { s with heap := h' }) :
    wpAny M A (do let a ← frameOf env; let pl ← entryPlaceOf L hadNext; let b ← EntryCells.newEntry head a .none (rawInt L) .none pl; setField (.ref e) 1 b) Q E s := by
  refine wpAny_bind (wpAny_frameOf_fun hfr hl hf fun h₁ hs₁ => wpAny_bind (wpAny_entryPlaceOf fun pl hpl => ?_))
  unfold EntryCells.newEntry newFields
  refine wpAny_bind (wpAny_newObj_type ?_ (hpl.sizeOk5 _ _ _ _ _))
  obtain ⟨ts, hts, h3⟩ : ∃ ts : Array Value, ts = ([head, .ref L, .none, rawInt L, .none] ++ (if pl.isEmpty then List.replicate 6 Value.none else pl)).toArray ∧ ts[3]? = some (rawInt L) := ⟨_, rfl, by simp⟩
  rw [← hts]
  have G := Goes.slots hl hs₁
  have he₁ : h₁.get? e = some oe := (hs₁.2.1 e fun hm => by
    obtain ⟨_, o, ho, hn⟩ := hl.mem hm
    exact hn vs (Option.some.inj (he.symm.trans ho) ▸ hd)).trans he
  have he₂ := Heap.get?_push_of_some { cls := .type "traceback", data := .fields ts } he₁
  have hTe : h₁.objs.size ≠ e := Nat.ne_of_gt (Heap.lt_size he₁)
  have G' := (G.trans (.push _)).trans (.field (·.setIfInBounds 1 (.ref h₁.objs.size)) he₂ hd hen)
  exact wpAny_setField he₂ hd hsz (h _ ⟨G'.stay hkb, hen, G'.frames hl, _, _, field_self _ he₂ hd, (Obj.cls_mapFields _ _).trans hc, (Obj.dict_mapFields' _ _).trans hx, Obj.data_mapFields hd _,
    h₁.objs.size, _, ts, by simp [hsz], (G.stay hkb).fresh, hTe, (Heap.get?_update_other _ _ (Ne.symm hTe)).trans (Heap.get?_push_size h₁ rfl), rfl, h3⟩ G')
/-- the fault's flag is written -/
theorem ExcUp.flag {fl : Value} {h : Heap} (hu : ExcUp base l e C dx fl h) (v : Value) : ∃ oe vs T oT ts, h.get? e = some oe ∧ oe.data = .fields vs ∧ vs[1]? = some (.ref T) ∧ h.get? T = some oT ∧ oT.data = .fields ts ∧ ts[3]? = some fl ∧ 3 < ts.size ∧
    ExcUp base l e C dx v (h.update T (Obj.mapFields (·.setIfInBounds 3 v))) ∧ Goes base h (h.update T (Obj.mapFields (·.setIfInBounds 3 v))) := by
  obtain ⟨hkb, hen, hl, oe, vs, he, hc, hx, hd, T, oT, ts, h1, hnT, hTe, hT, hdT, h3⟩ := hu
  have hsz := (Array.getElem?_eq_some_iff.mp h3).1
  have G := Goes.field (·.setIfInBounds 3 v) hT hdT hnT
  exact ⟨oe, vs, T, oT, ts, he, hd, h1, hT, hdT, h3, hsz, ⟨G.stay hkb, hen, G.frames hl, oe, vs, (Heap.get?_update_other _ _ hTe).trans he, hc, hx, hd, T, _, _, h1, hnT, hTe, field_self _ hT hdT, Obj.data_mapFields hdT _, by simp [hsz]⟩, G⟩
theorem landM {fl : Value} (hu : ExcUp base l e C dx fl s.heap) (h : ∀ h', ExcUp base l e C dx .none h' → Goes base s.heap h' → Q () { s with heap := h' }) : wpAny M A (setFlight (.ref e) none) Q E s := by
  obtain ⟨_, _, T, _, _, he, hd, h1, hT, hdT, _, hsz, U, G⟩ := hu.flag .none
  unfold setFlight
  refine wpAny_bind (wpAny_field he hd h1 ?_)
  rw [if_pos (by simp)]
  exact wpAny_setField hT hdT hsz (h _ U G)
theorem noteFirstM {oe : Obj} {vs : Array Value} (hfr : A.frames = some (env :: outer)) (hl : s.heap.FunFrames base (env :: outer)) (hf : env.frame = some L)
    (he : s.heap.get? e = some oe) (hkb : base.StaysIn s.heap) (hen : base.get? e = none) (hc : oe.cls = .ref C) (hx : oe.dict = some dx) (hd : oe.data = .fields vs) (h1 : vs[1]? = some .none)
    (h : ∀ h', ExcUp base (env :: outer) e C dx (rawInt L) h' → Goes base s.heap h' → Q () { s with heap := h' }) : wpAny M A (noteFrame (.ref e) env) Q E s := by
  unfold noteFrame
  simp only [hf]
  refine wpAny_bind (wpAny_field he hd h1 ?_)
  rw [if_neg (by decide)]
  exact entryM hfr hl hf he hkb hen hc hx hd (Array.getElem?_eq_some_iff.mp h1).1 h
theorem noteNextM (hfr : A.frames = some (env :: outer)) (hf : env.frame = some L) (hu : ExcUp base (env :: outer) e C dx .none s.heap)
    (h : ∀ h', ExcUp base (env :: outer) e C dx (rawInt L) h' → Goes base s.heap h' → Q () { s with heap := h' }) : wpAny M A (noteFrame (.ref e) env) Q E s := by
  obtain ⟨_, _, T, _, _, he, hd, h1, hT, hdT, h3, hsz, ⟨k1, k2, k3, oe, vs, he', hc', hx', hd', T', _, _, h1', _⟩, G⟩ := hu.flag .none
  unfold noteFrame
  simp only [hf]
  refine wpAny_bind (wpAny_field he hd h1 ?_)
  rw [if_pos (by simp)]
  refine wpAny_bind (wpAny_field hT hdT h3 ?_)
  rw [if_neg (by simp [rawInt])]
  exact wpAny_bind (wpAny_setField hT hdT hsz (entryM hfr k3 hf he' k1 k2 hc' hx' hd' (Array.getElem?_eq_some_iff.mp h1').1 fun h' x1 x2 => h h' x1 (G.trans x2)))
theorem ExcUp.pop {fl : Value} {h : Heap} (hu : ExcUp base (env :: outer) e C dx fl h) : ExcUp base outer e C dx fl h := by
  obtain ⟨hkb, hen, ⟨_, _, hl⟩, r⟩ := hu
  exact ⟨hkb, hen, hl, r⟩
end

/-- what a call that raises leaves behind -/
def RaisedM (base : Heap) (l : List Env) (e C dx : Addr) (news : List (Addr × Obj)) (h : Heap) : Prop :=
  ∃ B, base.StaysIn B ∧ (∀ q ∈ news, B.get? q.1 = some q.2 ∧ base.get? q.1 = none) ∧ ExcUp B l e C dx .none h
section
variable {M : Model} {A : Around} {E : Value → Shared → Prop} {s' : Shared} {base g h : Heap} {outer : List Env} {L a e C dx : Addr} {m : Str → Option Value} {name : Str} {scope : Scope} {cd : Value} {Q : Unit → Shared → Prop} {news : List (Addr × Obj)}
theorem leaveFirstM {t : Addr} (K : Below A base outer g) (F : Fr g L s'.heap m) (N : News g L s'.heap ((e, excO C t (some dx)) :: news)) (hap : ∀ p ∈ news, p.1 ≠ e)
    (hQ : ∀ h', RaisedM base outer e C dx news h' → g.UpToSlots h' → Q () { s' with heap := h' }) (hk : scope.kind = .function := by rfl) :
    wpAny M (A.deeper (envOf name scope L a cd)) (leaving (envOf name scope L a cd) (.ref e)) Q E s' := by
  have K' := K.push (name := name) (a := a) (cd := cd) F hk
  have fr : ∀ b, b ∈ (envOf name scope L a cd :: outer).filterMap (·.frame) → base.get? b = none := fun b hm => (K'.frames.mem hm).1
  have he := N _ (.head _)
  have ene : e ∉ (envOf name scope L a cd :: outer).filterMap (·.frame) := fun hm => by
    obtain ⟨o, ho, hnf⟩ := (K'.frames.mem hm).2
    rw [he.1] at ho; injection ho with ho; subst ho; exact hnf _ rfl
  have hin : ∀ env ∈ (envOf name scope L a cd :: outer), ∀ b, env.frame = some b → b ∈ e :: (envOf name scope L a cd :: outer).filterMap (·.frame) := fun env he b hb => .tail _ (List.mem_filterMap.mpr ⟨env, he, hb⟩)
  have ben : base.get? e = none := fresh_of_stays K.stays he.2.2
  have st : base.StaysIn (hideAll s'.heap (e :: (envOf name scope L a cd :: outer).filterMap (·.frame))) := fun b o q => hideAll_get _ (K'.stays b o q) fun hm => by
    rcases List.mem_cons.mp hm with rfl | hm
    · rw [ben] at q; cases q
    · rw [fr _ hm] at q; cases q
  have hl : ∀ q ∈ news, (hideAll s'.heap (e :: (envOf name scope L a cd :: outer).filterMap (·.frame))).get? q.1 = some q.2 ∧ base.get? q.1 = none := fun q hq => by
    refine ⟨hideAll_get _ (N q (.tail _ hq)).1 fun hm => ?_, fresh_of_stays K.stays (N q (.tail _ hq)).2.2⟩
    rcases List.mem_cons.mp hm with hm | hm
    · exact hap q hq hm
    · obtain ⟨env, he, hf⟩ := List.mem_filterMap.mp hm
      rcases List.mem_cons.mp he with rfl | he
      · exact (N q (.tail _ hq)).2.1 (Option.some.inj hf).symm
      · obtain ⟨o, ho, _⟩ := (K.frames.mem (List.mem_filterMap.mpr ⟨env, he, hf⟩)).2
        rw [(N q (.tail _ hq)).2.2] at ho; cases ho
  unfold leaving
  refine wpAny_bind (noteFirstM K'.stack (funFrames_hide K'.frames hin) rfl he.1 (fun b o q => of_hideAll _ q) (hideAll_none _ (.head _)) rfl rfl rfl rfl fun h₁ u1 u2 => ?_)
  exact landM u1 fun h₂ u3 u4 => hQ h₂ ⟨_, st, hl, u3.pop⟩ ((Heap.UpToSlots.of_keeps F.keep).trans (u2.trans u4).up)
theorem leaveNextM (K : Below A base outer g) (R : RaisedM base (envOf name scope L a cd :: outer) e C dx news s'.heap) (hsm : g.UpToSlots s'.heap)
    (hQ : ∀ h', RaisedM base outer e C dx news h' → g.UpToSlots h' → Q () { s' with heap := h' }) :
    wpAny M (A.deeper (envOf name scope L a cd)) (leaving (envOf name scope L a cd) (.ref e)) Q E s' := by
  obtain ⟨B, hB, hl, hu⟩ := R
  unfold leaving
  refine wpAny_bind (noteNextM (Around.frames_deeper K.stack) rfl hu fun h₁ u1 u2 => ?_)
  exact landM u1 fun h₂ u3 u4 => hQ h₂ ⟨B, hB, hl, u3.pop⟩ (hsm.trans (u2.trans u4).up)
end
end Mine
end
section
open PySem PySem.W PyProof.Rows
set_option Elab.async false
namespace Mine
/-- a call of the def at f over the ledger `news`: what comes back (P), what is raised (X) -/
def Calls (w : World) (n : Nat) (f : Addr) (vs : List Value) (news : List (Addr × Obj)) (P : Value → List (Addr × Obj) → Prop) (X : Addr → Str → Prop) : Prop :=
  ∀ (mean : ExcName → Option Value) (mg mb : Str → Option Value) (dp un : Nat) (gd : Option (List Code)) (cn : Str) (cs : Scope) (a : Addr) (ccd : Value) (cl : List (Str × Addr)) (outer : List Env) (A₀ : Around) (base h₀ : Heap) (L : Addr) (m : Str → Option Value) (s : Shared) (Q E : Value → Shared → Prop),
    Below A₀ base outer h₀ → Fr h₀ L s.heap m → (MineH.top.heap_1 w.params).In h₀ → News h₀ L s.heap news → Top MineH.top.view_1 (looseW MineH.top.view_1 []) mean mg mb h₀ → cs.kind = .function → dp + n < recursionLimit → un + 10 * n < cLine →
    (∀ r news' h' tk', P r news' → Fr h₀ L h' m → News h₀ L h' news' → Q r { s with heap := h', toks := tk' }) →
    (∀ e C why dx H k tw h' tk', X C why → RaisedM base (envX cn cs L a ccd cl :: outer) e C dx ((dx, dictOf [⟨H, .str "why" k, .str why tw⟩] 1) :: news) h' → (∃ g, Fr h₀ L g m ∧ g.UpToSlots h') → E (.ref e) { s with heap := h', toks := tk' }) →
    wpAny (model PySem.Challenge.rw_nm0116_01.row.prog w) (ktrTop dp un gd cn cs L a ccd cl outer) (call (.ref f) vs) Q E s
theorem Calls.use {w : World} {n : Nat} {f : Addr} {vs : List Value} {news : List (Addr × Obj)} {P : Value → List (Addr × Obj) → Prop} {X : Addr → Str → Prop} (C : Calls w n f vs news P X)
    {mean : ExcName → Option Value} {mg mb : Str → Option Value} {dp un : Nat} {gd : Option (List Code)} {cn : Str} {cs : Scope} {a : Addr} {ccd : Value} {cl : List (Str × Addr)} {outer : List Env} {A₀ : Around} {base h₀ : Heap} {L : Addr} {m : Str → Option Value} {s : Shared} {Q E : Value → Shared → Prop}
    (B : Below A₀ base outer h₀) (F : Fr h₀ L s.heap m) (K : (MineH.top.heap_1 w.params).In h₀) (N : News h₀ L s.heap news) (T : Top MineH.top.view_1 (looseW MineH.top.view_1 []) mean mg mb h₀) (hk : cs.kind = .function) (hd : dp + n < recursionLimit) (hu : un + 10 * n < cLine)
    (hr : ∀ r news' h' tk', P r news' → Fr h₀ L h' m → News h₀ L h' news' → Q r { s with heap := h', toks := tk' })
    (hx : ∀ e C why dx H k tw h' tk', X C why → RaisedM base (envX cn cs L a ccd cl :: outer) e C dx ((dx, dictOf [⟨H, .str "why" k, .str why tw⟩] 1) :: news) h' → (∃ g, Fr h₀ L g m ∧ g.UpToSlots h') → E (.ref e) { s with heap := h', toks := tk' }) :
    wpAny (model PySem.Challenge.rw_nm0116_01.row.prog w) (ktrTop dp un gd cn cs L a ccd cl outer) (call (.ref f) vs) Q E s := C _ _ _ _ _ _ _ _ _ _ _ _ _ _ _ _ _ _ _ _ B F K N T hk hd hu hr hx
/-- the same over clean stacks -/
def CallsC (w : World) (n : Nat) (f : Addr) (vs : List Value) (news : List (Addr × Obj)) (P : Value → List (Addr × Obj) → Prop) (X : Addr → Str → Prop) : Prop :=
  ∀ (mean : ExcName → Option Value) (mg mb : Str → Option Value) (dp un : Nat) (cn : Str) (cs : Scope) (a : Addr) (ccd : Value) (cl : List (Str × Addr)) (outer : List Env) (A₀ : Around) (base h₀ : Heap) (L : Addr) (m : Str → Option Value) (s : Shared) (Q E : Value → Shared → Prop),
    Below A₀ base outer h₀ → Fr h₀ L s.heap m → (MineH.top.heap_1 w.params).In h₀ → News h₀ L s.heap news → Top MineH.top.view_1 (looseW MineH.top.view_1 []) mean mg mb h₀ → cs.kind = .function → dp + n < recursionLimit → un + 10 * n < cLine →
    (∀ r news' h' tk', P r news' → Fr h₀ L h' m → News h₀ L h' news' → Q r { s with heap := h', toks := tk' }) →
    (∀ e C why dx H k tw h' tk', X C why → RaisedM base (envX cn cs L a ccd cl :: outer) e C dx ((dx, dictOf [⟨H, .str "why" k, .str why tw⟩] 1) :: news) h' → (∃ g, Fr h₀ L g m ∧ g.UpToSlots h') → E (.ref e) { s with heap := h', toks := tk' }) →
    wpC (model PySem.Challenge.rw_nm0116_01.row.prog w) (ktrTop dp un (some []) cn cs L a ccd cl outer) (call (.ref f) vs) Q E s
def NoX : Addr → Str → Prop := fun _ _ => False
theorem Calls.c {w : World} {n : Nat} {f : Addr} {vs : List Value} {news : List (Addr × Obj)} {P : Value → List (Addr × Obj) → Prop} {X : Addr → Str → Prop} (h : Calls w n f vs news P X) : CallsC w n f vs news P X :=
  fun mean mg mb dp un cn cs a ccd cl outer A₀ base h₀ L m s Q E B F K N T hk hd hu hr hx => wpC_of (h mean mg mb dp un _ cn cs a ccd cl outer A₀ base h₀ L m s Q E B F K N T hk hd hu hr hx)

/-- a Memory's dict, its octets at b -/
abbrev memD (H1 H2 H3 H4 : Int) (k1 k2 k3 k4 : Tok) (most : Value) (page pages : Int) (tp tq : Tok) (b : Addr) : Obj :=
  dictOf [⟨H1, .str "most" k1, most⟩, ⟨H2, .str "page" k2, .int page tp⟩, ⟨H3, .str "pages" k3, .int pages tq⟩, ⟨H4, .str "data" k4, .ref b⟩] 4

section
variable {prog : Program} {w : World} {A : Around} {E : Value → Shared → Prop} {s : Shared} {h₀ : Heap} {L b : Addr} {m : Str → Option Value} {news : List (Addr × Obj)} {d : List UInt8}
theorem len_baK {Q : Value → Shared → Prop} (N : News h₀ L s.heap news) (hm : (b, baObj d) ∈ news) (hz : d.length ≤ 16777216) (h : ∀ t k, Q (.int d.length t) { s with toks := k }) : wpAny (model prog w) A (call (.builtin "len") [.ref b]) Q E s :=
  call_len_meets (n := (d.length : Int)) (ba_typeIs (N.get hm)) BF.slot_len BF.entry_len (BF.args_len _) (meets_len b d) (by omega) (by omega) (fun _ hq => ⟨N.get hm, hq⟩) (h _ _)
theorem slice_baK {value slice : PySem.Expr} {lo hi : Int} {t1 t2 : Tok} {Q : Value → Shared → Prop} (hF : Fr h₀ L s.heap m) (hN : News h₀ L s.heap news) (hm : (b, baObj d) ∈ news) (hz : d.length ≤ 16777216) (h0 : 0 ≤ lo) (h1 : lo ≤ hi) (h2 : hi ≤ d.length)
    (h : ∀ c h', Fr h₀ L h' m → News h₀ L h' ((c, baObj (part d lo.toNat (hi - lo).toNat)) :: news) → (∀ p ∈ news, p.1 < c) → Q (.ref c) { s with heap := h' })
    (hs : subscripted slice false (.ref b) (.ref s.heap.objs.size) = operate [.ref s.heap.objs.size, .ref b] (getItem (.ref b) (.ref s.heap.objs.size)) := by with_unfolding_all rfl)
    (ht : ∀ r, letTemporaryGo value (.ref b) r = pure () := by intro _; with_unfolding_all rfl) :
    wpAny (model prog w) A (subscriptTail value slice (.ref b) (.ref s.heap.objs.size)) Q E { s with heap := s.heap.push { cls := .type "slice", data := .fields #[.int lo t1, .int hi t2, .none] } } := by
  have hb : (s.heap.push { cls := .type "slice", data := .fields #[.int lo t1, .int hi t2, .none] }).get? b = some (baObj d) := Heap.get?_push_of_some _ (hN.get hm)
  have hT := ba_typeIs (s := { s with heap := s.heap.push { cls := .type "slice", data := .fields #[.int lo t1, .int hi t2, .none] } }) hb
  refine tail_of_ItemOn ⟨"bytearray", _, BF.slot_getitem.lookup, hT, getItem_meets hT (by decide) BF.slot_getitem BF.entry_getitem (BF.args_getitem _ _) (meets_getslice b _ d lo hi t1 t2 h0 h1 h2 (by rw [sizeLine_eq]; omega)) ⟨hb, Heap.IsSliceOf.new _ _ _ _, ?_⟩⟩ hs ht
  have hlt : ∀ p ∈ news, p.1 < (s.heap.push { cls := .type "slice", data := .fields #[.int lo t1, .int hi t2, .none] }).objs.size := fun p hp => Heap.lt_size (Heap.get?_push_of_some _ (hN p hp).1)
  exact h _ _ ((hF.push _).push _) (News.push (hF.push _) (News.pushKeep hN _) _) hlt
theorem bytes_baK {Q : Value → Shared → Prop} (N : News h₀ L s.heap news) (hm : (b, baObj d) ∈ news) (hz : d.length ≤ 16777216) (h : ∀ t k, Q (.bytes d.toArray t) { s with toks := k }) : wpAny (model prog w) A (call (.type "bytes") [.ref b]) Q E s :=
  call_bytes_ba (N.get hm) (by rw [sizeLine_eq]; omega) h
end
end Mine
end
section
open PySem PySem.W PyProof.Rows
set_option Elab.async false
namespace Mine.BF
set_option maxRecDepth 100000
theorem slot_iter : Slot "bytearray" "__iter__" "bytearray.__iter__" :=
  .of (owner := "bytearray") (n := "__iter__") (by rw [typeLookup_type, builtinLookup_eq_fast]; kernel_rfl) (by decide +kernel) (by decide +kernel) (by decide +kernel)
    (by first | exact .inl (by decide +kernel) | exact .inr (by decide +kernel)) (by rw [isSubtype_type]; kernel_rfl)
theorem entry_iter : entryFor table "bytearray.__iter__" = some Builtin.«bytearray.__iter__» := entryFor_of_tree (by kernel_rfl)
theorem args_iter (a : Value) : argsOk "bytearray.__iter__" ⟨[a], []⟩ := by unfold argsOk; kernel_rfl
theorem slot_next : Slot "bytearray_iterator" "__next__" "bytearray_iterator.__next__" :=
  .of (owner := "bytearray_iterator") (n := "__next__") (by rw [typeLookup_type, builtinLookup_eq_fast]; kernel_rfl) (by decide +kernel) (by decide +kernel) (by decide +kernel)
    (by first | exact .inl (by decide +kernel) | exact .inr (by decide +kernel)) (by rw [isSubtype_type]; kernel_rfl)
theorem entry_next : entryFor table "bytearray_iterator.__next__" = some Builtin.«bytearray_iterator.__next__» := entryFor_of_tree (by kernel_rfl)
theorem args_next (a : Value) : argsOk "bytearray_iterator.__next__" ⟨[a], []⟩ := by unfold argsOk; kernel_rfl
end Mine.BF
namespace Mine
set_option maxRecDepth 100000
abbrev baIter (b : Addr) (i : Nat) : Obj := { cls := .type "bytearray_iterator", data := .fields #[.ref b, .int i 0] }
section
variable {prog : Program} {w : World} {A : Around} {E : Value → Shared → Prop} {s : Shared} {b it : Addr} {d : List UInt8}
theorem pyIter_ba {Q : Value → Shared → Prop} (hb : s.heap.get? b = some (baObj d)) (hQ : Q (.ref s.heap.objs.size) { s with heap := s.heap.push (baIter b 0) }) : wpAny (model prog w) A (pyIter (.ref b)) Q E s := by
  refine wpAny_pyIter_slot (ba_typeIs hb) BF.slot_iter (wpAny_call_entry BF.slot_iter (ba_typeIs hb) BF.entry_iter ?_ (BF.args_iter _))
  show wpAny _ _ (do ret (← newFields "bytearray_iterator" [.ref b, rawInt 0])) _ _ s
  exact wpAny_bind (wpAny_newObj_type (wpAny_pure ⟨_, rfl, "bytearray_iterator", _, ⟨_, Heap.get?_push_size _ rfl, rfl⟩, BF.slot_next.lookup, hQ⟩))
theorem itba_typeIs {i : Nat} (h : s.heap.get? it = some (baIter b i)) : s.TypeIs (.ref it) "bytearray_iterator" := ⟨_, h, rfl⟩
theorem nextOf_ba_item {i : Nat} {c : UInt8} {Q : Value → Shared → Prop} (hit : s.heap.get? it = some (baIter b i)) (hb : s.heap.get? b = some (baObj d)) (hx : d[i]? = some c)
    (hQ : ∀ h', h'.get? it = some (baIter b (i + 1)) → Heap.SameBut it s.heap h' → Q (.int (c.toNat : Int) s.toks) { s with heap := h', toks := s.toks + 1 }) :
    wpAny (model prog w) A (Builtin.SmallTypes.nextOf (.ref it)) Q E s := by
  unfold Builtin.SmallTypes.nextOf
  refine wpAny_bind (wpAny_callSpecial?_slot (name := Str.ofString "__next__") (itba_typeIs hit) BF.slot_next
    (wpAny_call_entry BF.slot_next (itba_typeIs hit) BF.entry_next ?_ (BF.args_next _)))
  show wpAny _ _ (field (.ref it) 0 >>= _) _ _ s
  refine wpAny_bind (wpAny_field hit rfl (x := .ref b) rfl ?_)
  refine wpAny_bind (wpAny_load hb ?_)
  show wpAny _ _ (field (.ref it) 1 >>= _) _ _ s
  refine wpAny_bind (wpAny_field hit rfl (x := .int i 0) rfl ?_)
  have hx' : d.toArray[(i : Int).toNat]? = some c := by simpa using hx
  simp only [hx']
  refine wpAny_bind (wpAny_setField hit rfl (by simp) (wpAny_bind (wpAny_mkInt (wpAny_pure ⟨_, rfl, wpAny_pure (hQ _ ?_ (Heap.SameBut.update ..))⟩))))
  exact Heap.get?_update_self _ hit rfl
theorem nextOf_ba_end {i : Nat} {Q : Value → Shared → Prop} (hh : A.handled = none) (hit : s.heap.get? it = some (baIter b i)) (hb : s.heap.get? b = some (baObj d)) (hx : d[i]? = none)
    (hE : ∀ h' e, Heap.ExtBut it s.heap h' → (∃ o, h'.get? e = some o ∧ o.cls = .type "StopIteration") → E (.ref e) { s with heap := h' }) :
    wpAny (model prog w) A (Builtin.SmallTypes.nextOf (.ref it)) Q E s := by
  unfold Builtin.SmallTypes.nextOf
  refine wpAny_bind (wpAny_callSpecial?_slot (name := Str.ofString "__next__") (itba_typeIs hit) BF.slot_next
    (wpAny_call_entry BF.slot_next (itba_typeIs hit) BF.entry_next ?_ (BF.args_next _)))
  show wpAny _ _ (field (.ref it) 0 >>= _) _ _ s
  refine wpAny_bind (wpAny_field hit rfl (x := .ref b) rfl ?_)
  refine wpAny_bind (wpAny_load hb ?_)
  show wpAny _ _ (field (.ref it) 1 >>= _) _ _ s
  refine wpAny_bind (wpAny_field hit rfl (x := .int i 0) rfl ?_)
  have hx' : d.toArray[(i : Int).toNat]? = none := by simpa using hx
  simp only [hx']
  refine wpAny_bind (wpAny_rule (wpAny_bind (wpAny_setField hit rfl (by simp) (wpAny_bind (wpAny_letGo ?_)))))
  show wpAny _ _ (newExc (.type "StopIteration") [] >>= _) _ _ _
  refine wpAny_bind ?_
  simp only [newExc, newTuple]
  refine wpAny_bind (wpAny_newObj_type ?_ (by size_fits))
  refine wpAny_bind (m := firstArgMember _ _) (wpAny_of_eq (a := Value.none) (by first | rfl | (simp only [firstArgMember]; rfl)) ?_)
  refine wpAny_newObj_type ?_ (by size_fits)
  simp only [raiseNew]
  refine wpAny_bind (wpAny_handled ?_)
  first | rw [show A.in1.handled = none from hh] | rw [hh]
  refine wpAny_bind (wpAny_pure (wpAny_throw ?_))
  exact hE _ _ (((Heap.SameBut.update ..).extBut.push _).push _) ⟨_, Heap.get?_push_size _ rfl, rfl⟩
end
abbrev octInts (d : List UInt8) : List Int := d.map fun c => (c.toNat : Int)
theorem draws_ba {prog : Program} {w : World} {A : Around} (hh : A.handled = none) (it b : Addr) (hne : b ≠ it) (d : List UInt8) :
    Draws prog w A it [it, b] d.length (fun i v => ∃ c u, d[i]? = some c ∧ v = .int (c.toNat : Int) u) (fun i h => h.get? it = some (baIter b i) ∧ h.get? b = some (baObj d)) where
  live := fun _ _ st => ⟨_, st.1⟩
  frame := fun _ _ _ st hk => ⟨hk it (by simp) _ st.1, hk b (by simp) _ st.2⟩
  item := fun i s Q E hi st hQ => by
    refine nextOf_ba_item st.1 st.2 (c := d[i]) (by simp [hi]) fun h' hit' hs' => ?_
    exact hQ _ h' (s.toks + 1) ⟨_, _, by simp [hi], rfl⟩ ⟨hit', (hs'.2 b hne).trans st.2⟩ hs'
  done := fun s Q E st hE => nextOf_ba_end hh st.1 st.2 (by simp) hE
theorem meets_enum_ba (b : Addr) (d : List UInt8) :
    Meets (Builtin.«enumerate.__new__» ⟨[.type "enumerate", .ref b], []⟩) (fun _ R s => s.heap.get? b = some (baObj d) ∧
      R (.ok (.ret (.ref (s.heap.push (baIter b 0)).objs.size)))
        { s with heap := (s.heap.push (baIter b 0)).push { cls := .type "enumerate", data := .fields #[.none, .bool false, .ref s.heap.objs.size, rawInt 0, .none, .none] } }) :=
  .of_wp fun prog w A R s h => by
    obtain ⟨hp, g, d', tk, os⟩ := s; obtain ⟨hl, h⟩ := h
    have hsub := sub_enumerate
    wp_walk using AutoSeq1.wpAny_loadPart' hl
    refine wpAny_stack_any fun st => wpAny_pure ?_
    split
    · rename_i c _ _ _ _ _
      cases (c == Value.type "enumerate")
      · wp_walk using AutoSeq1.wpAny_loadPart' hl, pyIter_ba hl
        exact ⟨_, rfl, h⟩
      · wp_walk using AutoSeq1.wpAny_loadPart' hl, pyIter_ba hl
        exact ⟨_, rfl, h⟩
    · wp_walk using AutoSeq1.wpAny_loadPart' hl, pyIter_ba hl
      exact ⟨_, rfl, h⟩
section
variable {prog : Program} {w : World} {A : Around} {E : Value → Shared → Prop} {s : Shared} {h₀ : Heap} {L b : Addr} {m : Str → Option Value} {news : List (Addr × Obj)} {d : List UInt8}
theorem call_enum_ba {Q : Value → Shared → Prop} (hh : A.handled = none) (F : Fr h₀ L s.heap m) (N : News h₀ L s.heap ((b, baObj d) :: news)) (hap : ∀ p ∈ news, p.1 ≠ b)
    (h : ∀ h' e, Fr h₀ L h' m → News h₀ L h' news → PairSrcL prog w A E h₀ L ItemKind.int (octInts d) (.ref e) { s with heap := h' } m news → Q (.ref e) { s with heap := h' }) :
    wpAny (model prog w) A (call (.type "enumerate") [.ref b]) Q E s := by
  have hb := N.get (.head _)
  have hLs : L < s.heap.objs.size := F.ns.lt
  have hab : h₀.objs.size ≤ L := F.above
  have hbs : b < s.heap.objs.size := Heap.lt_size hb
  have hbL : b ≠ L := (N _ (.head _)).2.1
  refine callType_new PySem.F.called_enumerate (by decide) (PySem.F.typeCall_enumerate_1 _) (PySem.F.newCall_enumerate_1 _) (fun obj => PySem.F.args_object_init_2 obj _) PySem.F.entry_enumerate_new
    (meets_enum_ba b d) ⟨hb, ?_⟩
  have hz : (s.heap.push (baIter b 0)).objs.size = s.heap.objs.size + 1 := Heap.size_push ..
  show _ ∧ _
  rw [hz]
  have he : IsEnum ((s.heap.push (baIter b 0)).push
      { cls := .type "enumerate", data := .fields #[.none, .bool false, .ref s.heap.objs.size, rawInt 0, .none, .none] }) (s.heap.objs.size + 1) s.heap.objs.size 0 .none := by
    have := Heap.get?_push_size (s.heap.push (baIter b 0))
      (o := { cls := .type "enumerate", data := .fields #[.none, .bool false, .ref s.heap.objs.size, rawInt 0, .none, .none] }) rfl
    rw [hz] at this; exact this
  have hk : ∀ x o, s.heap.get? x = some o → ((s.heap.push (baIter b 0)).push { cls := .type "enumerate", data := .fields #[.none, .bool false, .ref s.heap.objs.size, rawInt 0, .none, .none] }).get? x = some o := fun b o x => Heap.get?_push_of_some _ (Heap.get?_push_of_some _ x)
  have hit : ((s.heap.push (baIter b 0)).push { cls := .type "enumerate", data := .fields #[.none, .bool false, .ref s.heap.objs.size, rawInt 0, .none, .none] }).get? s.heap.objs.size = some (baIter b 0) := Heap.get?_push_of_some _ (Heap.get?_push_size _ rfl)
  have F' := F.keeps hk
  have N' : News h₀ L _ news := fun p hp => ⟨hk _ _ (N p (.tail _ hp)).1, (N p (.tail _ hp)).2⟩
  refine ⟨⟨_, he, rfl⟩, h _ _ F' N' fun env hL => ?_⟩
  subst hL
  refine enumSrc (draws_ba (A := A.in1) hh s.heap.objs.size b (Nat.ne_of_lt hbs) d) he ⟨hit, hk _ _ hb⟩ (Nat.succ_ne_self _) ?_ (by simp) ?_
    (Heap.get?_none_of_le (Nat.le_trans hab (Nat.le_of_lt (Nat.lt_succ_of_lt hLs)))) (Heap.get?_none_of_le (Nat.le_trans hab (Nat.le_of_lt hLs))) ?_ (by simp [octInts]) (fun i x hx => ?_) F' N'
  · intro hm
    rcases List.mem_cons.mp hm with e | hm
    · exact Nat.succ_ne_self _ e
    · exact Nat.ne_of_gt (Nat.lt_succ_of_lt hbs) (List.mem_singleton.mp hm)
  · intro hm
    rcases List.mem_cons.mp hm with e | hm
    · exact Nat.ne_of_lt (Nat.lt_succ_of_lt hLs) e
    · rcases List.mem_cons.mp hm with e | hm
      · exact Nat.ne_of_lt hLs e
      · exact hbL (List.mem_singleton.mp hm).symm
  · intro x hx q hq e
    have hq1 : q.1 < s.heap.objs.size := Heap.lt_size (N q (.tail _ hq)).1
    rcases List.mem_cons.mp hx with e1 | hx
    · exact Nat.ne_of_gt (Nat.lt_succ_of_lt hq1) (e1.symm.trans e)
    · rcases List.mem_cons.mp hx with e1 | hx
      · exact Nat.ne_of_gt hq1 (e1.symm.trans e)
      · exact hap q hq (e.symm.trans (List.mem_singleton.mp hx))
  · obtain ⟨c, u, hc, rfl⟩ := hx
    exact ⟨_, by simp [octInts, hc], ItemKind.int_mk _ _⟩
end
end Mine
end
section
open PySem PySem.W PyProof.Rows
set_option Elab.async false
namespace Mine
set_option maxRecDepth 100000
section
variable {prog : Program} {w : World} {A : Around} {E : Value → Shared → Prop} {s : Shared} {h₀ : Heap} {L b c : Addr} {m : Str → Option Value} {news news' : List (Addr × Obj)} {d new : List UInt8}
abbrev sliceO (lo hi : Int) (t1 t2 : Tok) : Obj := { cls := .type "slice", data := .fields #[.int lo t1, .int hi t2, .none] }
/-- b[lo:hi] = a bytearray of that length -/
theorem setslice_baK {lo hi : Int} {t1 t2 : Tok} {Q : Unit → Shared → Prop} (F : Fr h₀ L s.heap m) (N : News h₀ L s.heap news) (U : Upd b (baObj d) (baObj (paste d lo.toNat new)) news news') (hc : (c, baObj new) ∈ news) (hbc : b ≠ c)
    (h0 : 0 ≤ lo) (h1 : lo ≤ hi) (h2 : hi ≤ d.length) (hn : (new.length : Int) = hi - lo) (hz : d.length ≤ 16777216)
    (h : ∀ h', Fr h₀ L h' m → News h₀ L h' news' → Q () { s with heap := h' }) :
    wpAny (model prog w) A (setItem (.ref b) (.ref s.heap.objs.size) (.ref c)) Q E { s with heap := s.heap.push (sliceO lo hi t1 t2) } := by
  obtain ⟨pre, post, rfl, rfl, u1, u2⟩ := U.split
  have hb : (s.heap.push (sliceO lo hi t1 t2)).get? b = some (baObj d) := Heap.get?_push_of_some _ (N (b, baObj d) (by simp)).1
  have hc' : (s.heap.push (sliceO lo hi t1 t2)).get? c = some (baObj new) := Heap.get?_push_of_some _ (N _ hc).1
  unfold setItem
  refine wpAny_holding ?_
  refine wpAny_bind (wpAny_sequenceKey (ba_typeIs hb) (by decide) ?_)
  refine wpAny_bind (wpAny_callSpecial?_slot (name := Str.ofString "__setitem__") (ba_typeIs hb) BF.slot_setitem
    (call_meets BF.slot_setitem (ba_typeIs hb) BF.entry_setitem (BF.args_setitem _ _ _) (meets_setslice_ba b c _ d new lo hi t1 t2 hbc h0 h1 h2 hn (by rw [sizeLine_eq]; exact hz)) ⟨hb, hc', Heap.IsSliceOf.new _ _ _ _, fun g hg => ?_⟩))
  obtain ⟨U1, U2⟩ := news_upd (f := g) (F.push (sliceO lo hi t1 t2)) (News.pushKeep N (sliceO lo hi t1 t2)) u1 u2 hg rfl
  exact wpAny_pure (h _ U1 U2)
/-- b[lo:hi] = bytes of that length, over clean stacks -/
theorem setslice_bytesK {lo hi : Int} {t1 t2 t : Tok} {Q : Unit → Shared → Prop} (hg : A.guards = some []) (F : Fr h₀ L s.heap m) (N : News h₀ L s.heap news) (U : Upd b (baObj d) (baObj (paste d lo.toNat new)) news news')
    (h0 : 0 ≤ lo) (h1 : lo ≤ hi) (h2 : hi ≤ d.length) (hn : (new.length : Int) = hi - lo) (hz : d.length ≤ 16777216)
    (h : ∀ h', Fr h₀ L h' m → News h₀ L h' news' → Q () { s with heap := h' }) :
    wpC (model prog w) A (setItem (.ref b) (.ref s.heap.objs.size) (.bytes new.toArray t)) Q E { s with heap := s.heap.push (sliceO lo hi t1 t2) } := by
  obtain ⟨pre, post, rfl, rfl, u1, u2⟩ := U.split
  have D := N (b, baObj d) (by simp)
  have hb : (s.heap.push (sliceO lo hi t1 t2)).get? b = some (baObj d) := Heap.get?_push_of_some _ D.1
  unfold setItem
  refine wpC_holding ?_
  refine wpC_bindA (wpAny_sequenceKey (ba_typeIs hb) (by decide) ?_)
  refine wpC_bind (callSpecialC (name := Str.ofString "__setitem__") (ba_typeIs hb) BF.slot_setitem
    (callC_slot BF.slot_setitem (ba_typeIs hb) BF.entry_setitem (BF.args_setitem _ _ _) (clean_ba_setitem _)
      (setslice_bytes (by exact hg) h0 h1 h2 hn (by rw [sizeLine_eq]; exact hz) hb (Heap.IsSliceOf.new _ _ _ _) fun h' e k => ?_)))
  refine ⟨_, rfl, wpC_pure (h h' ?_ fun p hp => ?_)⟩
  · have k' : ∀ c o, c ≠ b → s.heap.get? c = some o → h'.get? c = some o := fun c o hc ho => k c o hc (Heap.get?_push_of_some _ ho)
    obtain ⟨oL, es, ep, hL, r⟩ := F.ns
    refine ⟨⟨oL, es, ep, k' _ _ (Ne.symm D.2.1) hL, r⟩, fun x o q => k' _ _ (fun z => ?_) (F.keep x o q), F.above⟩
    have := D.2.2; rw [← z, q] at this; cases this
  · have k' : ∀ c o, c ≠ b → s.heap.get? c = some o → h'.get? c = some o := fun c o hc ho => k c o hc (Heap.get?_push_of_some _ ho)
    rcases List.mem_append.mp hp with q | q
    · have P := N p (List.mem_append_left _ q); exact ⟨k' _ _ (u1 p q) P.1, P.2⟩
    · rcases List.mem_cons.mp q with rfl | q
      · exact ⟨e, D.2⟩
      · have P := N p (List.mem_append_right _ (.tail _ q)); exact ⟨k' _ _ (u2 p q) P.1, P.2⟩
/-- b.extend(bytes), over clean stacks -/
theorem extend_bytesK {t : Tok} {Q : Value → Shared → Prop} (hg : A.guards = some []) (F : Fr h₀ L s.heap m) (N : News h₀ L s.heap news) (U : Upd b (baObj d) (baObj (d ++ new)) news news') (hz : d.length + new.length ≤ 16777216)
    (h : ∀ h', Fr h₀ L h' m → News h₀ L h' news' → Q .none { s with heap := h' }) :
    wpC (model prog w) A (call (.builtin "bytearray.extend") [.ref b, .bytes new.toArray t]) Q E s := by
  obtain ⟨pre, post, rfl, rfl, u1, u2⟩ := U.split
  have D := N (b, baObj d) (by simp)
  refine callC_slot BF.slot_extend (ba_typeIs D.1) BF.entry_extend (BF.args_extend _ _) (clean_ba_extend _) (extend_bytes (by exact hg) D.1 (by rw [sizeLine_eq]; exact hz) fun g hgd => ?_)
  obtain ⟨U1, U2⟩ := news_upd (f := g) F N u1 u2 hgd rfl
  exact ⟨_, rfl, h _ U1 U2⟩
end
end Mine
end
section
open PySem PySem.W PyProof.Rows PySem.Calls
set_option Elab.async false
namespace Mine
set_option maxRecDepth 100000
section
variable {M : Model} {A : Around} {E : Value → Shared → Prop} {s : Shared} {env : Env}
theorem wpC_execs_cons {st rest} {Q : Flow → Shared → Prop}
    (h : wpC M A (exec st env) (fun f s' => match f with | .next => wpC M A (execs rest env) Q E s' | f => Q f s') E s) : wpC M A (execs (st :: rest) env) Q E s := by
  rw [execs_cons]
  refine wpC_bind (wpC_mono h (fun f s' h' => ?_) fun _ _ x => x)
  cases f <;> first | exact h' | exact wpC_pure h'
theorem wpC_execs_consA {st rest} {Q : Flow → Shared → Prop}
    (h : wpAny M A (exec st env) (fun f s' => match f with | .next => wpC M A (execs rest env) Q E s' | f => Q f s') E s) : wpC M A (execs (st :: rest) env) Q E s := wpC_execs_cons (wpC_of h)
theorem wpC_execs_nil {Q : Flow → Shared → Prop} (h : Q .next s) : wpC M A (execs [] env) Q E s := wpC_pure h
theorem wpC_standAt {α : Type} {p : Pos} {f : Unit → Sem α} {Q : α → Shared → Prop} (h : wpC M A (f ()) Q E s) : wpC M A (standAt p >>= f) Q E s := wpC_bindA (wpAny_standAt h)
theorem wpC_Expr {e pos} {Q : Flow → Shared → Prop} (h : wpC M A (eval e env) (fun v s' => match v with | .ref _ => False | _ => Q .next s') E s)
    (hi : interactive env = false := by rfl) (hs : swapsWith e none pos.line env = pure false := by rfl) : wpC M A (exec (.Expr e pos) env) Q E s := by
  rw [exec_Expr env e pos hi hs]
  refine wpC_standAt (wpC_bind (wpC_mono h (fun v s' h' => ?_) fun _ _ x => x))
  have hv : ∀ a, v ≠ .ref a := fun a hva => by subst hva; exact h'
  rw [dropValue_plain hv]
  refine wpC_pure ?_
  cases v <;> first | exact h' | exact (hv _ rfl).elim
theorem wpC_Return_some {e pos} {Q : Flow → Shared → Prop} (h : wpC M A (eval e env) (fun v => Q (.ret v)) E s) : wpC M A (exec (.Return (some e) pos) env) Q E s := by
  rw [exec_Return_some]
  exact wpC_standAt (wpC_bind (wpC_mono h (fun v s' h' => wpC_pure h') fun _ _ x => x))
theorem wpC_If {test body orelse pos} {Q : Flow → Shared → Prop}
    (h : wpAny M A (isTrue test env (eval test env)) (fun b s₂ => if b then wpC M A (execs body env) Q E s₂ else wpC M A (execs orelse env) Q E s₂) E s) :
    wpC M A (exec (.If test body orelse pos) env) Q E s := by
  rw [exec_If]
  refine wpC_standAt (wpC_bindA (wpAny_mono h (fun b s' h' => ?_) fun _ _ x => x))
  cases b <;> exact h'
theorem wpC_Assign_Name {x pos' value pos} {Q : Flow → Shared → Prop}
    (h : wpC M A (eval value env) (fun v s₁ => wpAny M A (storeName env x v) (fun _ => Q .next) E s₁) E s)
    (hs : swapsWith value (some (.Name x pos')) pos.line env = pure false := by rfl) :
    wpC M A (exec (.Assign [.Name x pos'] value pos) env) Q E s := by
  rw [exec_Assign_Name env x pos' value pos hs]
  exact wpC_standAt (wpC_bind (wpC_mono h (fun v s' h' => wpC_standAt (wpC_bindA (wpAny_bindName (wpAny_mono h' (fun _ _ z => wpC_pure z) fun _ _ x => x)))) fun _ _ x => x))
theorem wpC_Assign_Subscript {o i pos' value pos} {Q : Flow → Shared → Prop}
    (h : wpAny M A (eval value env) (fun v s₁ => wpAny M A (eval o env) (fun ov s₂ => wpAny M A (eval i env) (fun iv s₃ => wpC M A (setItem ov iv v) (fun _ => Q .next) E s₃) E s₂) E s₁) E s)
    (hs : swapsWith value (some (.Subscript o i pos')) pos.line env = pure false := by rfl) :
    wpC M A (exec (.Assign [.Subscript o i pos'] value pos) env) Q E s := by
  rw [exec_Assign_Subscript o i pos' value pos hs, show (fun v : Value => assign (.Subscript o i pos') env v >>= fun _ => (pure Flow.next : Sem Flow)) = _ from funext fun v => by rw [assign_Subscript]]
  refine wpC_standAt (wpC_bindA (wpAny_mono h (fun v s₁ h₁ => ?_) fun _ _ x => x))
  refine wpC_bind (wpC_bindA (wpAny_holding (wpAny_mono h₁ (fun ov s₂ h₂ => ?_) fun _ _ x => x)))
  refine wpC_bindA (wpAny_holding (wpAny_mono h₂ (fun iv s₃ h₃ => ?_) fun _ _ x => x))
  refine wpC_standAt (wpC_bind (wpC_holding (wpC_mono h₃ (fun _ s₄ h₄ => wpC_of (wpAny_release (wpC_pure h₄))) fun _ _ x => x)))
theorem wpC_Assign_Attribute {o attr pos' value pos} {Q : Flow → Shared → Prop}
    (h : wpC M A (eval value env) (fun v s₁ => wpAny M A (eval o env) (fun ov s₂ => wpAny M A (setAttr ov attr v) (fun _ => Q .next) E s₂) E s₁) E s)
    (hs : swapsWith value (some (.Attribute o attr pos')) pos.line env = pure false := by rfl) :
    wpC M A (exec (.Assign [.Attribute o attr pos'] value pos) env) Q E s := by
  rw [plainObj_exec_Assign_Attribute o attr pos' value pos hs, show (fun v : Value => assign (.Attribute o attr pos') env v >>= fun _ => (pure Flow.next : Sem Flow)) = _ from funext fun v => by rw [assign_Attribute]]
  refine wpC_standAt (wpC_bind (wpC_mono h (fun v s₁ h₁ => ?_) fun _ _ x => x))
  refine wpC_bind (wpC_bindA (wpAny_holding (wpAny_mono h₁ (fun ov s₂ h₂ => ?_) fun _ _ x => x)))
  exact wpC_standAt (wpC_bindA (wpAny_holding (wpAny_mono h₂ (fun _ s₃ h₃ => wpC_of (wpAny_release (wpC_pure h₃))) fun _ _ x => x)))
theorem wpC_Call_Name {x : Str} {np pos : Pos} {args : List Expr} {keywords : List Keyword} {Q : Value → Shared → Prop}
    (h : wpAny M A (eval (.Name x np) env) (fun f s₁ => wpC M A (callWith pos f [] (backTo pos (starEach args env)) (backToKw pos (keywordEach keywords env))) Q E s₁) E s) :
    wpC M A (eval (.Call (.Name x np) args keywords pos) env) Q E s := by
  show wpC M A (do callWith pos (← eval (.Name x np) env) [] (backTo pos (starEach args env)) (backToKw pos (keywordEach keywords env))) Q E s
  exact wpC_bindA h
theorem wpC_Call_Attr {o : Expr} {name : Str} {apos pos : Pos} {args : List Expr} {pl : Sem Bool} {Q : Value → Shared → Prop}
    (h : wpAny M A (eval o env) (fun ov s₁ => wpAny M A (getMethod ov name pl) (fun fx s₂ => wpC M A (callWith pos fx.1 fx.2 (backTo pos (starEach args env)) []) Q E s₂) E s₁) E s)
    (he : eval (.Call (.Attribute o name apos) args [] pos) env = (do
      let ov ← eval o env
      standAt apos.atName
      let (f, first) ← holding [ov] (getMethod ov name pl)
      callWith pos f first (backTo pos (starEach args env)) []) := by rfl) :
    wpC M A (eval (.Call (.Attribute o name apos) args [] pos) env) Q E s := by
  rw [he]
  refine wpC_bindA (wpAny_mono h (fun ov s₁ h₁ => wpC_standAt (wpC_bindA (wpAny_holding (wpAny_mono h₁ (fun fx s₂ h₂ => ?_) fun _ _ x => x)))) fun _ _ x => x)
  exact h₂
/-- a call whose callee is looked at safely: the args by the library's rules -/
theorem wpC_callWith {P : Heap → Prop} {pos : Pos} {f : Value} {first : List Value} {args : List (Bool × Sem Value)} {keywords : List (Option Str × Sem Value)} {Q : Value → Shared → Prop} (hplain : (args.any (·.1) || keywords.any (·.1.isNone)) = false)
    (hk : ∀ h, P h → ∃ k, (k = Keeper.frame ∨ k = Keeper.machine ∨ k = Keeper.boundFrame) ∧ Looks M h (keeperOf f) k)
    (h : wpAny M A (evalArgs f true args keywords) (fun a s₁ => P s₁.heap ∧ wpC M A (call f (first ++ a.pos) a.kw) Q E s₁) E s) : wpC M A (callWith pos f first args keywords) Q E s := by
  unfold callWith
  refine wpC_bindA (wpAny_holding (wpAny_mono h (fun a s₁ h₁ => wpC_standAt ?_) fun _ _ x => x))
  obtain ⟨k, hk', L⟩ := hk _ h₁.1
  simp only [hplain]
  refine wpC_bindA (L.here ?_)
  have tail : ∀ {t : Sem Value}, wpC M A t Q E s₁ → wpC M A (t >>= fun r => holding [r] point >>= fun _ => pure r) Q E s₁ :=
    fun ht => wpC_bind (wpC_mono ht (fun r s₂ hr => wpC_bindA (wpAny_holding (wpAny_point (wpC_pure hr)))) fun _ _ x => x)
  have marked (mk : Value) : wpC M A (callMarked mk f (first ++ a.pos) a.kw) Q E s₁ := by unfold callMarked; exact wpC_keep h₁.2
  rcases hk' with rfl | rfl | rfl <;> dsimp only <;> first | exact tail h₁.2 | (split <;> first | exact tail h₁.2 | exact tail (marked _))
theorem wpC_callWith_K {K : Frag} {h₀ : Heap} {pos : Pos} {f : Value} {first : List Value} {e : Expr} {rest : List Expr} {Q : Value → Shared → Prop} (_X : K.In h₀) (hk : keepIn K f = true) (h : wpAny M A (spliced (backTo pos (starEach (e :: rest) env))) (fun vs s₁ => K.In s₁.heap ∧ wpC M A (call f (first ++ vs)) Q E s₁) E s)
    (he : starEach (e :: rest) env = (false, eval e env) :: starEach rest env := by rfl) (hplain : (backTo pos (starEach rest env)).any (·.1) = false := by rfl) :
    wpC M A (callWith pos f first (backTo pos (starEach (e :: rest) env)) []) Q E s := by
  rw [he] at h ⊢
  exact wpC_callWith (by show ((false || (backTo pos (starEach rest env)).any (·.1)) || false) = false; rw [hplain]; rfl) (keeps_K hk) (evalArgs_plain h)
theorem wpC_callWith_mach {pos : Pos} {f : Value} {first : List Value} {e : Expr} {rest : List Expr} {Q : Value → Shared → Prop} (hk : keeperOf f = pure .machine) (h : wpAny M A (spliced (backTo pos (starEach (e :: rest) env))) (fun vs s₁ => wpC M A (call f (first ++ vs)) Q E s₁) E s)
    (he : starEach (e :: rest) env = (false, eval e env) :: starEach rest env := by rfl) (hplain : (backTo pos (starEach rest env)).any (·.1) = false := by rfl) :
    wpC M A (callWith pos f first (backTo pos (starEach (e :: rest) env)) []) Q E s := by
  rw [he] at h ⊢
  exact wpC_callWith (P := fun _ => True) (by show ((false || (backTo pos (starEach rest env)).any (·.1)) || false) = false; rw [hplain]; rfl) (fun h _ => ⟨.machine, .inr (.inl rfl), Looks.of_pure hk⟩) (evalArgs_plain (wpAny_mono h (fun vs s₁ h₁ => ⟨trivial, h₁⟩) fun _ _ x => x))
end
end Mine
end
section
open PySem PySem.W PyProof.Rows PySem.Calls
set_option Elab.async false
namespace Mine
set_option maxRecDepth 100000
section
variable {prog : Program} {w : World} {A : Around} {R : Result → Shared → Prop} {s : Shared}
theorem codeC_func {body env}
    (h : wpC (model prog w) (A.deeper env) (execs body env) (fun f s' => R (.ok (.ret (match f with | .ret v => v | _ => .none))) s')
      (fun e s' => wpAny (model prog w) (A.deeper env) (leaving env e) (fun _ s'' => R (.error e) s'') (fun e' s'' => R (.error e') s'') s') s) :
    codeC (model prog w) A (.func body env) R s := by
  refine codeC_of_tree rfl ?_
  show wpC _ (A.deeper env) (do point; match ← (execs body env).onRaise (leaving env) with | .ret v => ret v | _ => ret .none) _ _ s
  refine wpC_bindA (wpAny_point (wpC_bind (wpC_onRaise (wpC_mono h (fun f s' h' => ?_) fun _ _ h' => wpC_of h'))))
  cases f <;> exact wpC_pure h'
theorem codeC_call_function {a : Addr} {args : Args} {o : Obj} {fd : FuncData} {body : List Stmt} (hroom : A.depth < recursionLimit)
    (ho : s.heap.get? a = some o)
    (hd' : o.data = .func fd) (hco : fd.scope.isCoroutine = false) (hgen : fd.scope.isGenerator = false) (hbody : fd.body = .stmts body) (hcd : s.heap.CodeRec fd.code fd.qualname)
    (h : wpAny (model prog w) A.in1 (bindArgs fd args) (fun binds s₁ =>
      wpAny (model prog w) A.in1 (newFunctionEnv fd.scope fd.globals fd.closure binds (fd.qualname ++ ".<locals>.") (some a) fd.code none fd.builtins)
        (fun env s₂ => s₂.heap.NoLimit ∧ codeC (model prog w) A (.func body env) R s₂) (fun e s' => R (.error e) s') s₁) (fun e s' => R (.error e) s') s) :
    codeC (model prog w) A (.call (.ref a) args) R s := by
  refine codeC_of_treeA ?_
  show wpAny _ A.in1 (callAny (.ref a) args) _ _ s
  simp only [callAny]
  refine wpAny_bind (wpAny_load ho ?_)
  obtain ⟨c, oc, vs, tq, hc, hoc, hdc, hq⟩ := hcd
  simp only [hd', callFunction, hco, hgen, hbody, hc]
  rw [hc] at h
  refine wpAny_bind (m := field (.ref c) 1) (wpAny_field hoc hdc hq (wpAny_bind (wpAny_pure ?_)))
  exact wpAny_bind (wpAny_mono h (fun binds s₁ h₁ => wpAny_bind (wpAny_mono h₁ (fun env s₂ h₂ => wpAny_bind (wpAny_enterFrame h₂.1 hroom
    (wpAny_pure (And.intro rfl h₂.2)))) fun _ _ h' => h')) fun _ _ h' => h')
end
section
variable {prog : Program} {w : World} {A₀ A : Around} {s : Shared} {base h₀ : Heap} {outer : List Env} {L : Addr} {m mg mb : Str → Option Value} {env : Env} {news : List (Addr × Obj)} {K : Frag} {p : Program} {loose : List Str} {mean : ExcName → Option Value}
  {R : Result → Shared → Prop} {name qual : Str} {params : Arguments} {body : List Stmt} {scope : Scope} {dV kV doc pm cdv ct oc : Value} {an od : Option Addr} {osl : Array (Option Value)} {f : Addr} {args : Args} {binds : List (Str × Value)}
/-- a def without cells is entered, over clean stacks -/
theorem codeC_def
    (B : Below A₀ base outer h₀) (F : Fr h₀ L s.heap m) (X₀ : K.In h₀) (N : News h₀ L s.heap news) (T : Top p loose mean mg mb h₀) (hA : A.frames = some (env :: outer)) (hf : env.frame = some L) (hke : env.scope.kind = .function)
    (ho : K.lookup f = some ⟨oc, od, .func (fnOf name qual params body scope dV kV doc pm an cdv ct), osl⟩) (hcd : codeIn K cdv qual = true) (hroom : A.depth < recursionLimit)
    (hbind : BindsTo s (fnOf name qual params body scope dV kV doc pm an cdv ct) args binds) (hloc : ∀ y ∈ binds, scope.names.lookup y.1 = some .local)
    (h : ∀ g L' h₁ tk, Fr h₀ L g m → Fr g L' h₁ (fun y => binds.reverse.lookup y) → News g L' h₁ news → Below A base (env :: outer) g → K.In g → Top p loose mean mg mb g →
      wpC (model prog w) (A.deeper (envOf qual scope L' f cdv)) (execs body (envOf qual scope L' f cdv))
        (fun fl s' => LeaveK h₀ L m g R (match fl with | .ret v => v | _ => .none) s')
        (fun e s' => wpAny (model prog w) (A.deeper (envOf qual scope L' f cdv)) (leaving (envOf qual scope L' f cdv) e) (fun _ s'' => R (.error e) s'') (fun e' s'' => R (.error e') s'') s')
        { s with heap := h₁, toks := tk })
    (hco : scope.isCoroutine = false) (hgen : scope.isGenerator = false) (hk : scope.kind = .function)
    (hcell : ∀ x ∈ scope.names, x.2 ≠ .cell) : codeC (model prog w) A (.call (.ref f) args) R s := by
  obtain ⟨FG, BG, st, lv⟩ := groundX (R := R) B F N hA hf hke
  have hlim := T.nolimit.keeps F.keep
  refine codeC_call_function hroom ((X₀.keeps F.keep) _ _ ho) rfl hco hgen rfl (codeRec_of (X₀.keeps F.keep) hcd) (hbind _ _ _ _ ?_)
  refine wpAny_newFunctionEnv hcell hloc (fun h₁ hns₀ hsb₀ => ⟨hlim.fresh _ hsb₀, codeC_func ?_⟩) hk
  have hk₁ : ∀ b o, s.heap.get? b = some o → h₁.get? b = some o := fun b o e => hsb₀.extBut b o (Nat.ne_of_lt (Heap.lt_size e)) (Heap.get?_push_of_some _ e)
  exact wpC_mono (h _ s.heap.objs.size h₁ _ FG ⟨hns₀, fun b o e => hk₁ b o (of_hideAll _ e), Nat.le_of_eq (hideAll_size _ _)⟩
    (fun p hp => ⟨hk₁ _ _ (N p hp).1, Nat.ne_of_lt (Heap.lt_size (N p hp).1), hideAll_none _ (List.mem_map_of_mem hp)⟩) BG (X₀.keeps st) (T.keeps st)) (fun fl s' hl => lv _ _ hl) fun _ _ y => y
end
theorem len_bytesL {prog : Program} {w : World} {A : Around} {E : Value → Shared → Prop} {s : Shared} {o : List UInt8} {t : Tok} {Q : Value → Shared → Prop} (hfit : o.length ≤ 1099511627776) (h : Q (.int o.length (s.toks + 1)) { s with toks := s.toks + 1 + 1 }) : wpAny (model prog w) A (call (.builtin "len") [.bytes o.toArray t]) Q E s :=
  len_bytes (b := o.toArray) (by simpa using hfit) (by simpa using h)
end Mine
end
section
open PySem PySem.W PyProof.Rows PySem.Calls
set_option Elab.async false
namespace Mine
set_option maxRecDepth 100000
section
variable {prog : Program} {w : World} {A : Around} {s : Shared}
/-- law's own frame: a def of the top with cells, entered over clean stacks -/
theorem callC_cellsN {R : Result → Shared → Prop} {name : Str} {params : Arguments} {body : List Stmt} {scope : Scope}
    {pm cd doc : Value} {a : Addr} {o : Obj} {args : List Value} {binds : List (Str × Value)}
    (hroom : A.depth < recursionLimit) (ho : s.heap.get? a = some o) (hdata : o.data = .func (Calls.docDef name params body scope pm cd doc)) (hlim : s.heap.NoLimit) (hcd : s.heap.CodeRec cd name)
    (hbind : bindArgs (Calls.docDef name params body scope pm cd doc) ⟨args, []⟩ = pure binds)
    (hkind : ∀ x ∈ binds, scope.names.lookup x.1 = some .local ∨ (scope.names.lookup x.1 = some .cell ∧ ((cellsFrom (s.heap.objs.size + 1) scope.names []).lookup x.1).isSome = true))
    (hnd : ((cellsFrom 0 scope.names []).map (·.1)).Nodup)
    (h : ∀ h₁ tk cells, Fr s.heap s.heap.objs.size h₁ (bindL (envOfC name scope s.heap.objs.size a cd).kindOf binds fun _ => none) → News s.heap s.heap.objs.size h₁ cells →
      CellsAre (bindC (envOfC name scope s.heap.objs.size a cd).kindOf binds fun _ => none) (cellsFrom (s.heap.objs.size + 1) scope.names []) cells →
      wpC (model prog w) (A.deeper (envOfC name scope s.heap.objs.size a cd)) (execs body (envOfC name scope s.heap.objs.size a cd))
        (fun f s' => R (.ok (.ret (match f with | .ret v => v | _ => .none))) s')
        (fun e s' => wpAny (model prog w) (A.deeper (envOfC name scope s.heap.objs.size a cd)) (leaving (envOfC name scope s.heap.objs.size a cd) e)
          (fun _ s'' => R (.error e) s'') (fun e' s'' => R (.error e') s'') s')
        { s with heap := h₁, toks := tk })
    (hco : scope.isCoroutine = false := by rfl) (hgen : scope.isGenerator = false := by rfl) (hk : scope.kind = .function := by rfl) :
    codeC (model prog w) A (.call (.ref a) ⟨args, []⟩) R s := by
  refine codeC_call_function hroom ho hdata hco hgen rfl hcd ?_
  rw [hbind]
  refine wpAny_pure (wpAny_newFunctionEnv_cells hk hkind fun env he s₁ X => ?_)
  subst he
  refine ⟨hlim.keeps X.toInCall.keep, codeC_func ?_⟩
  obtain ⟨h₁, tk, rfl, _⟩ := X.done
  obtain ⟨cells, N, Y⟩ := Cl.news (h₀ := s.heap) (Nat.le_refl _) fun n c hm => ⟨X.cell n c (lookup_of_mem_nodup (cellsFrom_names scope.names 0 (s.heap.objs.size + 1) [] [] rfl ▸ hnd) hm), X.above n c hm⟩
  exact h h₁ tk cells ⟨X.toInCall.ns, X.toInCall.keep, X.toInCall.fresh⟩ N Y
end
theorem enterC_call {M : Model} {A : Around} {s : Shared} {f : Value} {pos : List Value} {kw : List (Str × Value)} {c : ClaimW} {cl : Str → Option Addr} {mean : ExcName → Option Value} {args : List WData} {s₁ : Shared}
    (h : codeC M A (.call f ⟨pos, kw⟩) (GoodW c cl mean args s₁) s) : wpC M A (PySem.call f pos kw) (fun v s' => GoodWG c cl mean args s₁ (.ok (.ret v)) s') (fun e s' => GoodWG c cl mean args s₁ (.error e) s') s :=
  wpC_call (codeC_mono h fun res s' g => by
    have g := GoodW.toG g
    rcases g.1 with ⟨v, _, _, rfl, _⟩ | ⟨e, _, _, rfl, _⟩ <;> exact g)
end Mine
end
section
open PySem PySem.W PyProof.Rows
set_option Elab.async false
namespace Mine
set_option maxRecDepth 100000
theorem meta_Exception : typeOf (.type "Exception") = pure (.type "type") := by unfold typeOf; kernel_rfl
abbrev excBm : List Value := [.ref 31, .type "Exception", .type "BaseException", .type "object"]
/-- the heap's class C is one of the program's faults -/
abbrev FaultCls (K : Frag) (C N : Addr) : Prop := ∃ nm q bs sub k0 k1 k2 k3 k5, K.lookup C = some (excClassObj nm q C N bs excBm true [] sub false none none k0 k1 k2 k3 k5 "Exception.__new__")
section
variable {prog : Program} {w : World} {A : Around} {E : Value → Shared → Prop} {s : Shared} {h₀ : Heap} {L : Addr} {m : Str → Option Value} {news news' : List (Addr × Obj)} {K : Frag} {C N e t : Addr}
theorem check_init_fault {M : Model} {oe : Obj} {rest : List Value} {Q : Unit → Shared → Prop} (X : K.In s.heap) (hC : FaultCls K C N) (he : s.heap.get? e = some oe) (hcls : oe.cls = .ref C) (hq : Q () s) :
    wpAny M A (checkBuiltinCall "Exception.__init__" ⟨.ref e :: rest, []⟩) Q E s := by
  obtain ⟨nm, q, bs, sub, k0, k1, k2, k3, k5, hK⟩ := hC
  have hC := X _ _ hK
  have F := PySem.F.excBase_Exception
  have hcB : (Value.ref C :: excBm).contains (.type "Exception") = true := by simp
  have hshort := F.noStar
  obtain ⟨h, g, d, tk, os⟩ := s
  simp only [checkBuiltinCall, F.initKind, F.initSplit, F.initRow]
  repeat (first | (with_reducible refine wpAny_loadPart_at he ?_; rw [hcls]) | with_reducible refine wpAny_loadPart_at hC ?_ | (with_reducible refine wpAny_isSubtype_exc hC ?_; rw [hcB]) | wp_step)
  refine wpAny_onRaise ?_
  rw [show ∀ (a b : String) (n : Nat), Bind.check ⟨.positional, "*", "Exception", .self, [⟨"args", .varPos, false⟩]⟩ a b n (List.map (fun x => x.fst) ({ pos := Value.ref e :: rest } : Args).kw) = pure () from
    fun a b n => check_star_args _ _ _ _ _ _]
  exact wpAny_pure hq
/-- Exception.__init__(e, ..): the args' tuple -/
theorem exc_init_K {rest : List Value} {Q : Value → Shared → Prop} (F : Fr h₀ L s.heap m) (X₀ : K.In h₀) (N' : News h₀ L s.heap news) (hC : FaultCls K C N) (hm : (e, excO C t none) ∈ news) (hz : rest.length ≤ 100)
    (h : ∀ t' h' (g : Obj → Obj), t' = s.heap.objs.size → g (excO C t none) = excO C t' none → h' = (s.heap.push (tupO rest)).update e g → Q .none { s with heap := h' }) :
    wpAny (model prog w) A (call (.builtin "Exception.__init__") (.ref e :: rest)) Q E s := by
  have he := N'.get hm
  refine wpAny_call (codeAny_call_builtin PySem.F.excBase_Exception.init.plain PySem.F.excBase_Exception.initEntry (check_init_fault (X₀.keeps F.keep) hC he rfl ?_))
  show wpAny _ _ (newTuple rest >>= fun t' => Builtin.BaseException.bexcPut (.ref e) 0 t' >>= fun _ => ret .none) _ _ s
  refine wpAny_bind (wpAny_newObj_type ?_ (by show rest.toArray.size ≤ sizeLine; rw [List.size_toArray, sizeLine_eq]; omega))
  have he₁ : (s.heap.push (tupO rest)).get? e = some (excO C t none) := Heap.get?_push_of_some _ he
  refine wpAny_bind ?_
  unfold Builtin.BaseException.bexcPut
  refine wpAny_bind (wpAny_field he₁ rfl (x := .ref t) rfl ?_)
  refine wpAny_bind (wpAny_setField he₁ rfl (by simp) ?_)
  refine wpAny_letGo ?_
  exact wpAny_pure (h _ _ _ rfl rfl rfl)
end
end Mine
end
section
open PySem PySem.W PyProof.Rows
set_option Elab.async false
namespace Mine
set_option maxRecDepth 100000
section
variable {prog : Program} {w : World} {A : Around} {E : Value → Shared → Prop} {s : Shared} {h₀ : Heap} {L : Addr} {m : Str → Option Value} {news news' : List (Addr × Obj)} {K : Frag} {C N e t : Addr}
theorem exc_cB (C : Addr) : (Value.ref C :: excBm).contains (.type "Exception") = true := by simp
theorem exc_cBB (C : Addr) : (Value.ref C :: excBm).contains (.type "BaseException") = true := by simp
theorem exc_cA (C : Addr) : (Value.ref C :: excBm).contains (.type "AttributeError") = false := by simp
theorem exc_cN (C : Addr) : (Value.ref C :: excBm).contains (.type "NameError") = false := by simp
theorem check_new_fault {M : Model} {rest : List Value} {Q : Unit → Shared → Prop} (X : K.In s.heap) (hC : FaultCls K C N) (hq : Q () s) :
    wpAny M A (checkBuiltinCall "Exception.__new__" ⟨.ref C :: rest, []⟩) Q E s := by
  obtain ⟨nm, q, bs, sub, k0, k1, k2, k3, k5, hK⟩ := hC
  have hC := X _ _ hK
  have F := PySem.F.excBase_Exception
  have hcont := exc_cB C
  have hstar := F.noStar
  obtain ⟨h, g, d, tk, os⟩ := s
  simp only [checkBuiltinCall, F.newKind, F.newSplit, F.newRow]
  repeat (first | refine wpAny_loadPart_at hC ?_ | (refine wpAny_isSubtype_exc hC ?_; rw [hcont]) | refine wpAny_staticBase_exc hC ?_ | refine wpAny_madeBy_exc hC ?_ | simp only [bne_self_eq_false, Bool.false_eq_true, if_false] | wp_step)
  exact hq
theorem code_new_fault {R : Result → Shared → Prop} {rest : List Value} (X : K.In s.heap) (hC : FaultCls K C N)
    (hq : R (.ok (.ret (.ref (s.heap.objs.size + 1)))) { s with heap := (s.heap.push (tupO rest)).push (excO C s.heap.objs.size none) }) (hrest : rest.length ≤ sizeLine) :
    codeAny (model prog w) A (.builtin "Exception.__new__" ⟨.ref C :: rest, []⟩) R s := by
  obtain ⟨nm, q, bs, sub, k0, k1, k2, k3, k5, hK⟩ := hC
  have hC := X _ _ hK
  have F := PySem.F.excBase_Exception
  have hends := F.ends
  have hcB := exc_cB C
  have hcA := exc_cA C
  have hcN := exc_cN C
  obtain ⟨h, g, d, tk, os⟩ := s
  refine codeAny_builtinAt F.entry ?_
  unfold Builtin.«BaseException.__new__»
  refine PySem.wpAt_bind ?_
  show PySem.wpAt _ _ _ (stack >>= _) _ _ _
  refine PySem.wpAt_bind (PySem.wpAt_stack fun p below => PySem.wpAt_of_wpAny ?_)
  wp_walk
  refine PySem.wpAt_of_wpAny ?_
  rw [F.owner]
  repeat (first | with_reducible refine wpAny_madeHere_exc F.canon hC ?_ | with_reducible refine wpAny_loadPart_at hC ?_ | (with_reducible refine wpAny_isSubtype_exc hC ?_; first | rw [hcB] | rw [hcA] | rw [hcN]) | wp_step)
  show R _ _
  rw [Heap.size_push]
  exact hq
/-- the class call of a fault of the program's, whose __init__ is a def of the program's -/
theorem call_fault {rest : List Value} {fI : Addr} {Q : Value → Shared → Prop} (F : Fr h₀ L s.heap m) (X₀ : K.In h₀) (N' : News h₀ L s.heap news) (hC : FaultCls K C N)
    (hi : findIn K (.ref C) "__init__" = some (some (.ref fI))) (hf : typeIn K (.ref fI) = some (.type "function")) (hrest : rest.length ≤ 100)
    (h : ∀ e t h', Fr h₀ L h' m → News h₀ L h' ((e, excO C t none) :: (t, tupO rest) :: news) → (∀ p ∈ news, p.1 < t) → t < e →
      wpAny (model prog w) (A.under (.builtin "type.__call__" ⟨.ref C :: rest, []⟩)) (call (.ref fI) (.ref e :: rest)) (fun r s' => r = .none ∧ Q (.ref e) s') E { s with heap := h' }) :
    wpAny (model prog w) A (call (.ref C) rest) Q E s := by
  have X : K.In s.heap := X₀.keeps F.keep
  have hC0 := hC
  obtain ⟨nm, q, bs, sub, k0, k1, k2, k3, k5, hK⟩ := hC0
  have hCo := X _ _ hK
  have f1 := tc_lookup
  have f2 := tc_bind (.ref C)
  have hl : rest.length ≤ sizeLine := by rw [sizeLine_eq]; omega
  have NN := (N'.push F (tupO rest)).push (F.push _) (excO C s.heap.objs.size none)
  rw [Heap.size_push] at NN
  obtain ⟨hh, g, d, tk, os⟩ := s
  have hT : (⟨hh, g, d, tk, os⟩ : Shared).TypeIs (.ref C) "type" := ⟨_, hCo, rfl⟩
  refine wpAny_call (codeAny_of_tree ?_)
  show wpAny _ _ (callAny (.ref C) _) _ _ _
  repeat (any_goals (first | assumption | with_reducible refine wpAny_loadPart_at hCo ?_ | wp_step))
  refine ⟨rfl, ?_⟩
  refine codeAny_call_builtin_at (Code.quiet_builtin _ (by decide +kernel)) entry_typeCall (wpAny_check_type_call_sub hCo ?_)
  repeat (first | with_reducible refine wpAny_loadPart_at hCo ?_ | with_reducible refine wpAny_madeBy_exc hCo ?_ | wp_step)
  refine codeAny_call_builtin_code (Code.quiet_builtin _ PySem.F.excBase_Exception.quiet) (check_new_fault X hC ?_)
  refine code_new_fault X hC ?_ hl
  show wpAny _ _ _ _ _ _
  have k : ∀ b o, hh.get? b = some o → ((hh.push (tupO rest)).push (excO C hh.objs.size none)).get? b = some o := fun b o x => Heap.get?_push_of_some _ (Heap.get?_push_of_some _ x)
  have hC₁ := k _ _ hCo
  have X₁ : K.In ((hh.push (tupO rest)).push (excO C hh.objs.size none)) := X.keeps k
  have hget : ((hh.push (tupO rest)).push (excO C hh.objs.size none)).get? (hh.objs.size + 1) = some (excO C hh.objs.size none) := (NN _ (.head _)).1
  have hcC : (Value.ref C :: excBm).contains (.ref C) = true := by simp
  unfold isInstance
  repeat (first | with_reducible refine wpAny_loadPart_at hget ?_ | (show wpAny _ _ (isSubtype (.ref C) (.ref C)) _ _ _; refine wpAny_isSubtype_exc hC₁ ?_; rw [hcC]) | wp_step)
  show wpAny _ _ (typeLookup (.ref C) _) _ _ _
  refine (looks_findIn X₁ hi).at ?_
  refine wpAny_holding (wpAny_bind ((bind_fn X₁ _ hf).at (wpAny_bind (wpAny_mono (h _ _ _ ((F.push _).push _) NN (fun p hp => Heap.lt_size (N' p hp).1) (Nat.lt_succ_self _)) (fun r s' hr => ?_) fun _ _ x => x))))
  obtain ⟨rfl, hQ⟩ := hr
  wp_walk
  exact hQ
end
end Mine
end
section
open PySem PySem.W PyProof.Rows
set_option Elab.async false
namespace Mine
set_option maxRecDepth 100000
section
variable {prog : Program} {w : World} {A : Around} {E : Value → Shared → Prop} {s : Shared} {h₀ : Heap} {L : Addr} {m : Str → Option Value} {news news' : List (Addr × Obj)} {K : Frag} {C N e t : Addr}
theorem fault_cls {M : Model} {h : Heap} (X : K.In h) (hC : FaultCls K C N) : ∃ o cd, h.get? C = some o ∧ o.data = .cls cd ∧ cd.mro = .ref C :: excBm ∧ cd.hasDict = true ∧ Looks M h (classData C) cd := by
  obtain ⟨nm, q, bs, sub, k0, k1, k2, k3, k5, hK⟩ := hC
  have h1 := X _ _ hK
  exact ⟨_, _, h1, rfl, rfl, rfl, (Looks.ld h1).andThen (Looks.of_pure rfl)⟩
theorem sstart_fault (self : Value) : refuseLoop self "__setattr__" (.ref C :: excBm) = pure () := by
  rw [refuseLoop_ref, refuseLoop_ref]; exact PySem.F.store_Exception.passes self
/-- the first attribute of a fault: its dict is made -/
theorem set_first {name : Str} {v : Value} {Q : Unit → Shared → Prop} (F : Fr h₀ L s.heap m) (X₀ : K.In h₀) (N' : News h₀ L s.heap ((e, excO C t none) :: news)) (hC : FaultCls K C N)
    (hs : findIn K (.ref C) "__setattr__" = some (some (.builtin "object.__setattr__"))) (ha : findIn K (.ref C) name = some none) (hap : ∀ p ∈ news, p.1 ≠ e)
    (h : ∀ dx H k h', Fr h₀ L h' m → News h₀ L h' ((e, excO C t (some dx)) :: (dx, dictOf [⟨H, .str name k, v⟩] 1) :: news) → (∀ p ∈ news, p.1 < dx) → e < dx → Q () { s with heap := h', toks := s.toks + 2 }) :
    wpAny (model prog w) A (setAttr (.ref e) name v) Q E s := by
  have X : K.In s.heap := X₀.keeps F.keep
  have he := (N' _ (.head _)).1
  have I : InstAt s.heap e (excO C t none) C none := ⟨he, rfl, rfl, trivial⟩
  refine set_plain X I hs ?_
  have SF := PySem.F.store_object
  obtain ⟨oC, cd, hCo, hCd, hmro, hdct, hcls⟩ := fault_cls (M := model prog w) X hC
  have hm : Looks (model prog w) s.heap (mroOf (.ref C)) (.ref C :: excBm) := by rw [← hmro]; exact hcls.andThen .now
  have sub : Looks (model prog w) s.heap (isInstance (.ref e) (.type "object")) true := I.type.andThen (hm.andThen (Looks.of_pure rfl))
  refine codeAny_call_builtin SF.slot.plain SF.entry (@check_slot (model prog w) _ _ _ "object.__setattr__" "object" "__setattr__" (.ref e) [.str name s.toks, v] [] _ SF.kind SF.split sub (SF.args (.ref e) (.str name s.toks) v) ?_)
  rw [osa_eq, refuse_eq]
  refine wpAny_bind (wpAny_bind (I.type.at (wpAny_bind (hm.at ?_))))
  rw [sstart_fault]
  refine wpAny_pure (wpAny_bind (I.type.at (wpAny_bind ((looks_findIn X ha).at (wpAny_bind (Looks.now.at ?_))))))
  dsimp only
  have hap' : ∀ p ∈ ([] : List (Addr × Obj)), p.1 ≠ s.heap.objs.size := fun _ h => nomatch h
  have NP : News h₀ L (s.heap.push emptyDict) ([(s.heap.objs.size, emptyDict)] ++ (e, excO C t none) :: news) := News.push F N' emptyDict
  have hlt := Heap.lt_size he
  obtain ⟨F1, N1⟩ := news_upd (f := fun o => { o with dict := some s.heap.objs.size }) (o' := excO C t (some s.heap.objs.size)) (F.push emptyDict) NP (by intro p hp; rw [List.mem_singleton.mp hp]; exact Nat.ne_of_gt hlt) hap rfl rfl
  have fz : (putL name (PyData.keyHash w.params name) (.str name (s.toks + 1)) v [], putN name [] 0) = ([⟨PyData.keyHash w.params name, .str name (s.toks + 1), v⟩], 1) := rfl
  obtain ⟨f1, f2⟩ := Prod.mk.inj fz
  obtain ⟨F2, N2⟩ := news_upd (pre := []) (f := Obj.putName name (PyData.keyHash w.params name) (.str name (s.toks + 1)) v) (o := emptyDict) (o' := dictOf [⟨PyData.keyHash w.params name, .str name (s.toks + 1), v⟩] 1) F1 N1 (fun _ h => nomatch h)
    (by
      intro p hp
      rcases List.mem_cons.mp hp with rfl | hp
      · exact Nat.ne_of_lt hlt
      · exact Nat.ne_of_lt (Heap.lt_size (N' p (.tail _ hp)).1))
    (by show Obj.putName _ _ _ _ (dictOf [] 0) = _; rw [putName_dict, f1, f2]) rfl
  have hz := h s.heap.objs.size (PyData.keyHash w.params name) (s.toks + 1) _ F2 (fun p hp => by
    rcases List.mem_cons.mp hp with rfl | hp
    · exact N2 _ (.tail _ (.head _))
    · rcases List.mem_cons.mp hp with rfl | hp
      · exact N2 _ (.head _)
      · exact N2 _ (.tail _ (.tail _ hp))) (fun p hp => Heap.lt_size (N' p (.tail _ hp)).1) hlt
  have he1 : (s.heap.push emptyDict).get? e = some (excO C t none) := Heap.get?_push_of_some _ he
  have D := (N1 _ (.head _)).1
  have D' := (N2 _ (.head _)).1
  refine wpAny_bind (wpAny_pure (wpAny_bind (wpAny_bind (wpAny_loadPart he (wpAny_bind (hcls.at ?_))))))
  rw [hdct]
  show wpAny _ _ (alloc emptyDict >>= fun d => update e (fun o => { o with dict := some d }) >>= fun _ => dictMade (.ref C) e d) _ _ _
  refine wpAny_bind (wpAny_alloc (wpAny_bind (wpAny_update he1 ?_)))
  refine wpAny_pure (a := some s.heap.objs.size) ?_
  show wpAny _ _ (Builtin.ObjectAttr.storeInDict s.heap.objs.size (.str name s.toks) name v) _ _ _
  unfold Builtin.ObjectAttr.storeInDict Builtin.ObjectAttr.newKeyGuard
  refine wpAny_bind (wpAny_pure (wpAny_bind ?_))
  unfold nsSet
  refine wpAny_bind (wpAny_bind (wpAny_askSetting (wpAny_pure (wpAny_bind (wpAny_mkText (wpAny_bind (wpAny_loadPart D ?_)))))))
  dsimp only [emptyDict]
  rw [aRefKeyMayBeTheName_at]
  rw [show ((!(#[] : Array DictEntry).any (·.key.isStr name) && (#[] : Array DictEntry).any (·.refKey))) = false from by simp]
  refine wpAny_updatePart D ?_
  refine wpAny_bind (wpAny_lookBehind D' (pastItsLine_dict (by rw [sizeLine_eq]; simp)) ?_)
  exact wpAny_pure hz
end
end Mine
end
section
open PySem PySem.W PyProof.Rows
set_option Elab.async false
namespace Mine
theorem plain_Exc4 : True := by
  w_top off
  k_with_none
  trivial
theorem trap_cls (w : World) : FaultCls (MineH.top.heap_1 w.params) 44 43 := by
  unfold FaultCls; exact ⟨_, _, _, _, _, _, _, _, _, rfl⟩
theorem misused_cls (w : World) : FaultCls (MineH.top.heap_1 w.params) 56 55 := by
  unfold FaultCls; exact ⟨_, _, _, _, _, _, _, _, _, rfl⟩
theorem exc_init_N {prog : Program} {w : World} {A : Around} {E : Value → Shared → Prop} {s : Shared} {h₀ : Heap} {L : Addr} {m : Str → Option Value} {news : List (Addr × Obj)} {K : Frag} {C N e t : Addr}
    {rest : List Value} {Q : Value → Shared → Prop} (F : Fr h₀ L s.heap m) (X₀ : K.In h₀) (N' : News h₀ L s.heap ((e, excO C t none) :: news)) (hC : FaultCls K C N) (hap : ∀ p ∈ news, p.1 ≠ e) (hz : rest.length ≤ 100)
    (h : ∀ t' h', Fr h₀ L h' m → News h₀ L h' ((e, excO C t' none) :: (t', tupO rest) :: news) → (∀ p ∈ (t', tupO rest) :: news, p.1 ≠ e) → Q .none { s with heap := h' }) :
    wpAny (model prog w) A (call (.builtin "Exception.__init__") (.ref e :: rest)) Q E s := by
  refine exc_init_K F X₀ N' hC (.head _) hz fun t' h' g ht hg hh => ?_
  subst ht hh
  have hlt := Heap.lt_size (N' _ (.head _)).1
  have NP : News h₀ L (s.heap.push (tupO rest)) ([(s.heap.objs.size, tupO rest)] ++ (e, excO C t none) :: news) := News.push F N' (tupO rest)
  obtain ⟨F1, N1⟩ := news_upd (f := g) (F.push _) NP (by intro p hp; rw [List.mem_singleton.mp hp]; exact Nat.ne_of_gt hlt) hap hg rfl
  refine h _ _ F1 (fun p hp => ?_) fun p hp => (List.mem_cons.mp hp).elim (fun z => by subst z; exact Nat.ne_of_gt hlt) fun hp => hap p hp
  rcases List.mem_cons.mp hp with rfl | hp
  · exact N1 _ (.tail _ (.head _))
  · rcases List.mem_cons.mp hp with rfl | hp
    · exact N1 _ (.head _)
    · exact N1 _ (.tail _ (.tail _ hp))
theorem keep2 {a b c d : Addr × Obj} {news : List (Addr × Obj)} : ∀ p ∈ a :: b :: news, p ∈ a :: b :: c :: d :: news := by
  intro p hp
  rcases List.mem_cons.mp hp with rfl | hp
  · exact .head _
  · rcases List.mem_cons.mp hp with rfl | hp
    · exact .tail _ (.head _)
    · exact .tail _ (.tail _ (.tail _ (.tail _ hp)))
theorem lines_Exc4_0 : True := by
  w_top off
  k_with_none
  k_with "mine getMethod type:Exception" => (k_here; refine' method_type ?F ?X ?m (by decide +kernel) ?e ?h ?_; (case F => k_asm); (case X => k_asm); (case m => exact meta_Exception); (case e => k_dflt k_is); (case h => k_handed))
  k_with "mine call builtin:Exception.__init__" => (k_here; refine' exc_init_N ?F ?X ?N ?C ?a ?z ?_; (case F => k_asm); (case X => k_asm); (case N => k_asm); (case C => first | exact trap_cls _ | exact misused_cls _); (case a => assumption); (case z => exact Nat.le_of_ble_eq_true rfl); k_whole; intro t' h' F' N' l1)
  k_with "mine setAttr ref" => (k_here; refine' set_first ?F ?X ?N ?C ?i ?j ?a ?_; (case F => k_asm); (case X => k_asm); (case N => k_asm); (case C => first | exact trap_cls _ | exact misused_cls _); (case i => k_dflt k_is); (case j => k_dflt k_is); (case a => assumption); k_whole; intro dx H k h' F' N' l1 l2)
  trivial

set_option maxRecDepth 100000 in
set_option maxHeartbeats 8000000 in
theorem trap_calls (w : World) (why : Str) (tw : Tok) (news : List (Addr × Obj)) :
    Calls w 5 44 [.str why tw] news (fun r n' => ∃ e t dx H k, r = .ref e ∧ (∀ p ∈ (dx, dictOf [⟨H, .str "why" k, .str why tw⟩] 1) :: news, p.1 ≠ e) ∧ n' = (e, excO 44 t (some dx)) :: (dx, dictOf [⟨H, .str "why" k, .str why tw⟩] 1) :: news) NoX := by
  unfold Calls
  k_fill
  intro mean mg mb dp un gd cn cs a ccd cl outer A₀ base h₀ L m s Q E B F X N T hk hd hu hret hraise
  refine call_fault (fI := 28) F X N (trap_cls w) (by k_is) (by k_is) (Nat.le_of_ble_eq_true rfl) fun e t h' F' N' l1 l2 => ?_
  have ap1 : ∀ p ∈ (t, tupO [Value.str why tw]) :: news, p.1 ≠ e := by
    intro p hp
    rcases List.mem_cons.mp hp with rfl | hp
    · exact Nat.ne_of_lt l2
    · exact Nat.ne_of_lt (Nat.lt_trans (l1 p hp) l2)
  refine wpAny_call ?_
  k_dflt cell_enter
  k_steps
  refine hret _ _ _ _ ⟨_, _, _, _, _, rfl, ?_, rfl⟩ (by assumption) (News.perm (by assumption) keep2)
  intro p hp
  rcases List.mem_cons.mp hp with rfl | hp
  · exact Nat.ne_of_gt (by assumption)
  · exact ap1 p (.tail _ hp)

set_option maxRecDepth 100000 in
set_option maxHeartbeats 8000000 in
theorem misused_calls (w : World) (why : Str) (tw : Tok) (news : List (Addr × Obj)) :
    Calls w 5 56 [.str why tw] news (fun r n' => ∃ e t dx H k, r = .ref e ∧ (∀ p ∈ (dx, dictOf [⟨H, .str "why" k, .str why tw⟩] 1) :: news, p.1 ≠ e) ∧ n' = (e, excO 56 t (some dx)) :: (dx, dictOf [⟨H, .str "why" k, .str why tw⟩] 1) :: news) NoX := by
  unfold Calls
  k_fill
  intro mean mg mb dp un gd cn cs a ccd cl outer A₀ base h₀ L m s Q E B F X N T hk hd hu hret hraise
  refine call_fault (fI := 28) F X N (misused_cls w) (by k_is) (by k_is) (Nat.le_of_ble_eq_true rfl) fun e t h' F' N' l1 l2 => ?_
  have ap1 : ∀ p ∈ (t, tupO [Value.str why tw]) :: news, p.1 ≠ e := by
    intro p hp
    rcases List.mem_cons.mp hp with rfl | hp
    · exact Nat.ne_of_lt l2
    · exact Nat.ne_of_lt (Nat.lt_trans (l1 p hp) l2)
  refine wpAny_call ?_
  k_dflt cell_enter
  k_steps
  refine hret _ _ _ _ ⟨_, _, _, _, _, rfl, ?_, rfl⟩ (by assumption) (News.perm (by assumption) keep2)
  intro p hp
  rcases List.mem_cons.mp hp with rfl | hp
  · exact Nat.ne_of_gt (by assumption)
  · exact ap1 p (.tail _ hp)
end Mine
end
section
open PySem PySem.W PyProof.Rows
set_option Elab.async false
namespace Mine
set_option maxRecDepth 100000
/-- a fault that is made may be raised -/
def RaisM (E : Value → Shared → Prop) (v : Value) (s : Shared) : Prop :=
  ∃ K C N e t dx, v = .ref e ∧ K.In s.heap ∧ FaultCls K C N ∧ s.heap.get? e = some (excO C t (some dx)) ∧ E (.ref e) s
section
variable {prog : Program} {w : World} {A : Around} {E : Value → Shared → Prop} {s : Shared} {env : Env}
theorem raiseStmt_fault {M : Model} {x : Sem Value} {Q : Flow → Shared → Prop} (hh : A.handled = none) (h : wpAny M A x (RaisM E) E s) :
    wpAny M A (raiseStmt env (some x) none) Q E s := by
  unfold raiseStmt
  refine wpAny_bind (wpAny_mono h (fun v s₁ h₁ => ?_) fun _ _ x => x)
  obtain ⟨K, C, N, e, t, dx, rfl, X, ⟨nm, q, bs, sub, k0, k1, k2, k3, k5, hK⟩, he, hE⟩ := h₁
  have hC := X _ _ hK
  have hcB := exc_cBB C
  obtain ⟨hp, g, d, tk, os⟩ := s₁
  repeat (first | with_reducible refine wpAny_loadPart_at he ?_ | with_reducible refine wpAny_loadPart_at hC ?_ | (show wpAny _ _ (isSubtype (.ref C) (.type "BaseException")) _ _ _; refine wpAny_isSubtype_exc hC ?_; rw [hcB]) | wp_step)
  exact wpAny_raiseNew_none hh hE
theorem exec_raise_fault {x : Expr} {pos : Pos} {Q : Flow → Shared → Prop} (hh : A.handled = none) (h : wpAny (model prog w) A (eval x env) (RaisM E) E s) :
    wpAny (model prog w) A (exec (.Raise (some x) none pos) env) Q E s := by
  rw [arm_exec_Raise]
  first
    | exact wpAny_bind (wpAny_standAt (raiseStmt_fault hh (wpAny_bind (wpAny_mono h (fun v s₃ h₃ => wpAny_bind (wpAny_standAt (wpAny_pure h₃))) fun _ _ x => x))))
    | exact wpAny_bind (wpAny_standAt (raiseStmt_fault hh h))
    | (simp only [evalOpt, Option.map]; exact wpAny_bind (wpAny_standAt (raiseStmt_fault hh (wpAny_bind (wpAny_mono h (fun v s₃ h₃ => wpAny_bind (wpAny_standAt (wpAny_pure h₃))) fun _ _ x => x)))))
theorem raisM_intro {K : Frag} {C N e t dx : Addr} {h₀ : Heap} {L : Addr} {m : Str → Option Value} {news : List (Addr × Obj)} (F : Fr h₀ L s.heap m) (X : K.In h₀) (hC : FaultCls K C N) (N' : News h₀ L s.heap ((e, excO C t (some dx)) :: news)) (h : E (.ref e) s) : RaisM E (.ref e) s :=
  ⟨K, C, N, e, t, dx, rfl, X.keeps F.keep, hC, (N' _ (.head _)).1, h⟩
end
end Mine
end
section
open PySem PySem.W PyProof.Rows
set_option Elab.async false
namespace Mine
theorem plain_Want : True := by
  w_top off
  k_with_none
  trivial
theorem lines_Want_0 : True := by
  w_top off
  k_with_none
  k_with "mine call ref" => (k_here; (with_reducible show wpAny _ _ (call (Value.ref 44) [Value.str _ _]) _ _ _); k_dflt (refine' Calls.use (trap_calls _ _ _ _) ?B ?F ?X ?N ?T ?k ?d ?u ?_ ?x); (case B => k_asm); (case F => k_asm); (case X => k_asm); (case N => k_asm); (case T => k_asm); (case k => k_dflt (exact rfl)); (case d => ktr_room); (case u => ktr_units); (case x => intro _ _ _ _ _ _ _ _ _ hX; exact hX.elim); k_whole; intro r n' h' tk' hP F' N'; obtain ⟨e, t, dx, H, k, hr, hap, hn⟩ := hP; subst hr; subst hn)
  k_with "mine exec Raise some none" => (k_here; k_dflt (refine' exec_raise_fault ?h ?_; (case h => exact rfl)); k_whole)
  k_with "mine RaisM ref" => (k_here; refine' raisM_intro ?F ?X ?C ?N ?_; (case F => k_asm); (case X => k_asm); (case N => k_asm); (case C => first | exact trap_cls _ | exact misused_cls _); k_whole)
  k_with "mine RaisM" => (k_here; refine' raisM_intro ?F ?X ?C ?N ?_; (case F => k_asm); (case X => k_asm); (case N => k_asm); (case C => first | exact trap_cls _ | exact misused_cls _); k_whole)
  k_with "mine leaving ref" => (k_here; first | (refine' leaveNextM ?B ?R ?U ?_; (case B => assumption); (case R => assumption); (case U => assumption); k_whole; intro h' R' U') | (refine' leaveFirstM ?B ?F ?N ?a ?_; (case B => assumption); (case F => k_asm); (case N => k_asm); (case a => assumption); k_whole; intro h' R' U'))
  trivial
set_option maxRecDepth 100000 in
set_option maxHeartbeats 8000000 in
theorem want_within_calls (w : World) (at' many size : Int) (why : Str) (t1 t2 t3 t4 : Tok) (news : List (Addr × Obj)) :
    Calls w 8 77 [.int at' t1, .int many t2, .int size t3, .str why t4] news (fun r n' => r = .none ∧ n' = news ∧ 0 ≤ at' ∧ 0 ≤ many ∧ at' + many ≤ size) (fun C y => C = 44 ∧ y = why ∧ ¬ (0 ≤ at' ∧ 0 ≤ many ∧ at' + many ≤ size)) := by
  unfold Calls
  k_fill
  intro mean mg mb dp un gd cn cs a ccd cl outer A₀ base h₀ L m s Q E B F X N T hk hd hu hret hraise
  refine wpAny_call ?_
  k_dflt cell_enter
  k_steps
  all_goals first
    | exact hret _ _ _ _ ⟨rfl, rfl, by omega, by omega, by omega⟩ (by assumption) (by assumption)
    | exact hraise _ _ _ _ _ _ _ _ _ ⟨rfl, rfl, by omega⟩ (by assumption) ⟨_, by assumption, by assumption⟩
end Mine
end
section
open PySem PySem.W PyProof.Rows
set_option Elab.async false
namespace Mine
theorem plain_Mem1 : True := by
  w_top off
  k_with_none
  trivial
theorem upto_of {h₀ h' : Heap} {L : Addr} {m : Str → Option Value} (U : ∃ g, Fr h₀ L g m ∧ g.UpToSlots h') : h₀.UpToSlots h' := let ⟨_, F, u⟩ := U; (Heap.UpToSlots.of_keeps F.keep).trans u
structure Mem where
  (x dx b : Addr) (H1 H2 H3 H4 : Int) (k1 k2 k3 k4 tp tq : Tok) (most : Value) (page pages : Int) (d : List UInt8)
/-- the ledger of one memory ahead of others -/
abbrev Mem.led (M : Mem) (own : List (Addr × Obj)) : List (Addr × Obj) :=
  (M.x, instObj 185 M.dx) :: (M.dx, memD M.H1 M.H2 M.H3 M.H4 M.k1 M.k2 M.k3 M.k4 M.most M.page M.pages M.tp M.tq M.b) :: (M.b, baObj M.d) :: own
structure Mem.Ok (M : Mem) : Prop where
  p0 : 0 < M.page
  p1 : M.page < 1000
  sz : M.d.length ≤ 1000000
  pg : M.pages ≤ 1000
  mo : M.most = .none ∨ ∃ k t, M.most = .int k t
def GrowNot (size more greatest : Int) (most : Value) : Prop := more < 0 ∨ greatest < size + more ∨ (∃ k t, most = .int k t ∧ k < size + more)
def OUT : Str := "out of bounds memory access"
theorem lines_Mem1_0 : True := by
  w_top off
  k_with_none
  k_with "mine k_handed" => assumption
  k_with "mine call builtin:len" => (k_here; (with_reducible show wpAny _ _ (call (Value.builtin "len") [Value.ref _]) _ _ _); refine' len_baK ?N ?m ?z ?_; (case N => k_asm); (case m => k_mem); (case z => first | assumption | omega); k_whole; intro _ _)
  k_with "mine call type:bytes" => (k_here; (with_reducible show wpAny _ _ (call (Value.type "bytes") [Value.ref _]) _ _ _); refine' bytes_baK ?N ?m ?z ?_; (case N => k_asm); (case m => k_mem); (case z => first | assumption | omega | (simp only [part_length]; omega)); k_whole; intro _ _)
  k_with "mine leaving ref" => (k_here; first | (refine' leaveNextM ?B ?R ?U ?_; (case B => assumption); (case R => assumption); (case U => assumption); k_whole; intro h' R' U') | (refine' leaveFirstM ?B ?F ?N ?a ?_; (case B => assumption); (case F => k_asm); (case N => k_asm); (case a => assumption); k_whole; intro h' R' U'))
  k_with "mine call ref" => (k_here; k_dflt (show wpAny _ _ (call (Value.ref 77) [Value.int _ _, Value.int _ _, Value.int _ _, Value.str _ _]) _ _ _); k_dflt (refine' Calls.use (want_within_calls _ _ _ _ _ _ _ _ _ _) ?B ?F ?X ?N ?T ?k ?d ?u ?_ ?_); (case B => k_asm); (case F => k_asm); (case X => k_asm); (case N => k_asm); (case T => k_asm); (case k => k_dflt (exact rfl)); (case d => ktr_room); (case u => ktr_units); all_goals k_whole; all_goals (first | (intro e C why dx H k tw h' tk' hX R U; obtain ⟨hC, hW, nb⟩ := hX; subst hC; subst hW; have U' := upto_of U; clear U) | (intro r n' h' tk' hP F' N'; obtain ⟨hr, hn, b0, b1, b2⟩ := hP; subst hr; subst hn)))
  trivial
set_option maxRecDepth 100000 in
set_option maxHeartbeats 8000000 in
theorem want_calls (w : World) (M : Mem) (ok : M.Ok) (at' many : Int) (t1 t2 : Tok) (own : List (Addr × Obj)) :
    Calls w 10 126 [.ref M.x, .int at' t1, .int many t2] (M.led own) (fun r n' => r = .none ∧ n' = M.led own ∧ 0 ≤ at' ∧ 0 ≤ many ∧ at' + many ≤ M.d.length) (fun C y => C = 44 ∧ y = OUT ∧ ¬ (0 ≤ at' ∧ 0 ≤ many ∧ at' + many ≤ (M.d.length : Int))) := by
  obtain ⟨x, dx, b, H1, H2, H3, H4, k1, k2, k3, k4, tp, tq, most, page, pages, d⟩ := M
  obtain ⟨p0, p1, sz, pg, mo⟩ := ok
  dsimp only at p0 p1 sz pg mo
  unfold Calls
  dsimp only [Mem.led]
  k_fill
  intro mean mg mb dp un gd cn cs a ccd cl outer A₀ base h₀ L m s Q E B F X N T hk hd hu hret hraise
  have hmo : handedIn most = true := by rcases mo with rfl | ⟨_, _, rfl⟩ <;> rfl
  have sz' : d.length ≤ 16777216 := by omega
  refine wpAny_call ?_
  k_dflt cell_enter
  k_steps
  all_goals first
    | exact hret _ _ _ _ ⟨rfl, rfl, by assumption, by assumption, by assumption⟩ (by assumption) (by assumption)
    | exact hraise _ _ _ _ _ _ _ _ _ ⟨rfl, rfl, by assumption⟩ (by assumption) ⟨_, by assumption, by assumption⟩
set_option maxRecDepth 100000 in
set_option maxHeartbeats 8000000 in
theorem size_calls (w : World) (M : Mem) (ok : M.Ok) (own : List (Addr × Obj)) :
    Calls w 8 105 [.ref M.x] (M.led own) (fun r n' => (∃ t, r = .int ((M.d.length : Int).fdiv M.page) t) ∧ n' = M.led own) NoX := by
  obtain ⟨x, dx, b, H1, H2, H3, H4, k1, k2, k3, k4, tp, tq, most, page, pages, d⟩ := M
  obtain ⟨p0, p1, sz, pg, mo⟩ := ok
  dsimp only at p0 p1 sz pg mo
  unfold Calls
  dsimp only [Mem.led]
  k_fill
  intro mean mg mb dp un gd cn cs a ccd cl outer A₀ base h₀ L m s Q E B F X N T hk hd hu hret hraise
  have hmo : handedIn most = true := by rcases mo with rfl | ⟨_, _, rfl⟩ <;> rfl
  have sz' : d.length ≤ 16777216 := by omega
  refine wpAny_call ?_
  k_dflt cell_enter
  k_steps
  all_goals first
    | exact hret _ _ _ _ ⟨⟨_, rfl⟩, rfl⟩ (by assumption) (by assumption)
    | exact hraise _ _ _ _ _ _ _ _ _ ⟨rfl, rfl, by assumption⟩ (by assumption) ⟨_, by assumption, by assumption⟩
theorem lines_Mem1_1 : True := by
  k_with "mine call ref" => (k_here; k_dflt (show wpAny _ _ (call (Value.ref 126) [Value.ref _, Value.int _ _, Value.int _ _]) _ _ _); k_dflt (refine' Calls.use (want_calls _ ⟨_, _, _, _, _, _, _, _, _, _, _, _, _, _, _, _, _⟩ ?ok _ _ _ _ _) ?B ?F ?X ?N ?T ?k ?d ?u ?_ ?_); (case B => k_asm); (case F => k_asm); (case X => k_asm); (case N => k_asm); (case T => k_asm); (case k => k_dflt (exact rfl)); (case d => ktr_room); (case u => ktr_units); (case ok => exact ⟨by assumption, by assumption, by assumption, by assumption, by assumption⟩); all_goals k_whole; all_goals (first | (intro e C why dx H k tw h' tk' hX R U; obtain ⟨hC, hW, nb⟩ := hX; subst hC; subst hW; have U' := upto_of U; clear U; dsimp only at nb) | (intro r n' h' tk' hP F' N'; obtain ⟨hr, hn, b0, b1, b2⟩ := hP; subst hr; subst hn; dsimp only at b0 b1 b2; (try dsimp only [Mem.led] at N'))))
  k_with "mine call ref" => (k_here; k_dflt (show wpAny _ _ (call (Value.ref 105) [Value.ref _]) _ _ _); k_dflt (refine' Calls.use (size_calls _ ⟨_, _, _, _, _, _, _, _, _, _, _, _, _, _, _, _, _⟩ ?ok _) ?B ?F ?X ?N ?T ?k ?d ?u ?_ ?_); (case B => k_asm); (case F => k_asm); (case X => k_asm); (case N => k_asm); (case T => k_asm); (case k => k_dflt (exact rfl)); (case d => ktr_room); (case u => ktr_units); (case ok => exact ⟨by assumption, by assumption, by assumption, by assumption, by assumption⟩); all_goals k_whole; all_goals (first | (intro e C why dx H k tw h' tk' hX R U; exact hX.elim) | (intro r n' h' tk' hP F' N'; obtain ⟨⟨_, hr⟩, hn⟩ := hP; subst hr; subst hn; (try dsimp only [Mem.led] at N'))))
  trivial
set_option maxRecDepth 100000 in
set_option maxHeartbeats 8000000 in
theorem plain_calls (w : World) (M : Mem) (ok : M.Ok) (own : List (Addr × Obj)) :
    Calls w 8 182 [.ref M.x] (M.led own) (fun r n' => ∃ p t, r = .ref p ∧ n' = (p, tupO [M.most, .bytes M.d.toArray t]) :: M.led own) NoX := by
  obtain ⟨x, dx, b, H1, H2, H3, H4, k1, k2, k3, k4, tp, tq, most, page, pages, d⟩ := M
  obtain ⟨p0, p1, sz, pg, mo⟩ := ok
  dsimp only at p0 p1 sz pg mo
  unfold Calls
  dsimp only [Mem.led]
  k_fill
  intro mean mg mb dp un gd cn cs a ccd cl outer A₀ base h₀ L m s Q E B F X N T hk hd hu hret hraise
  have hmo : handedIn most = true := by rcases mo with rfl | ⟨_, _, rfl⟩ <;> rfl
  have sz' : d.length ≤ 16777216 := by omega
  refine wpAny_call ?_
  k_dflt cell_enter
  k_steps
  all_goals first
    | exact hret _ _ _ _ ⟨_, _, rfl, rfl⟩ (by assumption) (by assumption)
    | exact hraise _ _ _ _ _ _ _ _ _ ⟨rfl, rfl, by assumption⟩ (by assumption) ⟨_, by assumption, by assumption⟩
set_option maxRecDepth 100000 in
set_option maxHeartbeats 8000000 in
theorem kind_calls (w : World) (M : Mem) (ok : M.Ok) (own : List (Addr × Obj)) :
    Calls w 10 112 [.ref M.x] (M.led own) (fun r n' => ∃ p t, r = .ref p ∧ n' = (p, tupO [.int ((M.d.length : Int).fdiv M.page) t, M.most]) :: M.led own) NoX := by
  obtain ⟨x, dx, b, H1, H2, H3, H4, k1, k2, k3, k4, tp, tq, most, page, pages, d⟩ := M
  obtain ⟨p0, p1, sz, pg, mo⟩ := ok
  dsimp only at p0 p1 sz pg mo
  unfold Calls
  dsimp only [Mem.led]
  k_fill
  intro mean mg mb dp un gd cn cs a ccd cl outer A₀ base h₀ L m s Q E B F X N T hk hd hu hret hraise
  have hmo : handedIn most = true := by rcases mo with rfl | ⟨_, _, rfl⟩ <;> rfl
  have sz' : d.length ≤ 16777216 := by omega
  refine wpAny_call ?_
  k_dflt cell_enter
  k_steps
  all_goals first
    | exact hret _ _ _ _ ⟨_, _, rfl, rfl⟩ (by assumption) (by assumption)
    | exact hraise _ _ _ _ _ _ _ _ _ ⟨rfl, rfl, by assumption⟩ (by assumption) ⟨_, by assumption, by assumption⟩
set_option maxRecDepth 100000 in
set_option maxHeartbeats 8000000 in
theorem grown_calls (w : World) (size more greatest : Int) (most : Value) (t1 t2 t3 : Tok) (mo : most = .none ∨ ∃ k t, most = .int k t) (own : List (Addr × Obj)) :
    Calls w 8 84 [.int size t1, .int more t2, most, .int greatest t3] own (fun r n' => n' = own ∧ ((r = .none ∧ GrowNot size more greatest most) ∨ ((∃ t, r = .int (size + more) t) ∧ ¬ GrowNot size more greatest most))) NoX := by
  rcases mo with rfl | ⟨km, tm, rfl⟩
  all_goals
    unfold Calls
    k_fill
    intro mean mg mb dp un gd cn cs a ccd cl outer A₀ base h₀ L m s Q E B F X N T hk hd hu hret hraise
    refine wpAny_call ?_
    k_dflt cell_enter
    k_steps
    all_goals first
      | exact hret _ _ _ _ ⟨rfl, .inl ⟨rfl, by unfold GrowNot; first | (left; omega) | (right; left; omega) | (right; right; exact ⟨_, _, rfl, by omega⟩)⟩⟩ (by assumption) (by assumption)
      | exact hret _ _ _ _ ⟨rfl, .inr ⟨⟨_, rfl⟩, by rintro (h | h | ⟨k, t, e, h⟩) <;> first | omega | (cases e <;> omega)⟩⟩ (by assumption) (by assumption)
end Mine
end
section
open PySem PySem.W PyProof.Rows
set_option Elab.async false
namespace Mine
/-- the octets of a number, least first -/
def octI (x : Int) (n : Nat) : List Int := List.map (fun k' => Builtin.bitAnd (x.fdiv (2 ^ (8 * k').toNat)) 255) (rangeKs 0 n)
theorem octI_in (x : Int) (n : Nat) : ∀ k ∈ octI x n, 0 ≤ k ∧ k < 256 := by
  intro k hk
  obtain ⟨j, _, rfl⟩ := List.mem_map.mp hk
  rw [bitAnd_m8]
  omega
theorem octI_length (x : Int) (n : Nat) : (octI x n).length = n := by simp [octI, rangeKs_length]
def toU (l : List Int) : List UInt8 := l.map fun n => n.toNat.toUInt8
theorem toU_length (l : List Int) : (toU l).length = l.length := by simp [toU]
theorem byteArr_toU (l : List Int) : byteArr l = (toU l).toArray := rfl
def fillU (x : Int) (n : Nat) : List UInt8 := (List.replicate n [(Builtin.bitAnd x 255).toNat.toUInt8]).flatten
theorem fillU_length (x : Int) (n : Nat) : (fillU x n).length = n := by simp [fillU]
theorem bytes_oneK {prog : Program} {w : World} {A : Around} {E : Value → Shared → Prop} {s : Shared} {h₀ : Heap} {L D : Addr} {m : Str → Option Value} {news : List (Addr × Obj)} {v : Int} {tv : Tok} {Q : Value → Shared → Prop}
    (hh : A.handled = none) (F : Fr h₀ L s.heap m) (N : News h₀ L s.heap news) (hm : (D, listOf #[.int v tv] 0) ∈ news) (hr : 0 ≤ v ∧ v < 256)
    (h : ∀ h' t' k, Fr h₀ L h' m → News h₀ L h' news → Q (.bytes [v.toNat.toUInt8].toArray t') { s with heap := h', toks := k }) : wpAny (model prog w) A (call (.type "bytes") [.ref D]) Q E s :=
  call_bytes_ints (vs := [.int v tv]) (ns := [v]) (N.isList hm) (IntsAre.cons _ _ IntsAre.nil) (by intro n hn; rw [List.mem_singleton.mp hn]; exact hr) (by show 1 ≤ sizeLine; rw [sizeLine_eq]; omega) hh fun h' t' k hk => h h' t' k (F.keeps hk) (N.grown hk)
end Mine
end
section
open PySem PySem.W PyProof.Rows
set_option Elab.async false
namespace Mine
theorem plain_Num : True := by
  w_top off
  k_with_none
  trivial
def numB (d : List UInt8) : Int := List.foldl (fun T (p : Int × Nat) => Builtin.bitOr T (p.1 * 2 ^ (8 * (p.2 : Int)).toNat)) 0 (octInts d).zipIdx
theorem oct_facts {d : List UInt8} {i : Nat} {a : Int} (h : (octInts d)[i]? = some a) : i < d.length ∧ 0 ≤ a ∧ a < 256 := by
  have h1 : i < (octInts d).length := (List.getElem?_eq_some_iff.mp h).1
  have h2 : a ∈ octInts d := List.mem_of_getElem? h
  obtain ⟨c, _, rfl⟩ := List.mem_map.mp h2
  have := c.toNat_lt
  refine ⟨by simpa [octInts] using h1, by omega, by omega⟩
theorem lines_Num_0 : True := by
  w_top off
  k_with_none
  k_with "mine call type:enumerate" => (k_here; (with_reducible show wpAny _ _ (call (Value.type "enumerate") [Value.ref _]) _ _ _); k_dflt (refine' call_enum_ba ?h ?F ?N ?a ?_); (case h => k_dflt (exact rfl)); (case F => k_asm); (case N => k_asm); (case a => assumption); k_whole; intro h' e F' N' S')
  k_with "mine binaryOp LShift int int" => (k_here; have z := oct_facts (by assumption); (refine' lshift_int_small ?a ?b ?c ?_); (case a => omega); (case b => omega); (case c => (show _ < 18446744073709551616; omega)))
  trivial
set_option maxRecDepth 100000 in
set_option maxHeartbeats 8000000 in
theorem number_of_calls (w : World) (c : Addr) (d : List UInt8) (hz : d.length ≤ 1000) (own : List (Addr × Obj)) (hap : ∀ p ∈ own, p.1 ≠ c) :
    Calls w 8 65 [.ref c] ((c, baObj d) :: own) (fun r n' => (∃ t, r = .int (numB d) t) ∧ n' = own) NoX := by
  unfold Calls
  k_fill
  intro mean mg mb dp un gd cn cs a ccd cl outer A₀ base h₀ L m s Q E B F X N T hk hd hu hret hraise
  refine wpAny_call ?_
  k_dflt cell_enter
  k_steps
  all_goals exact hret _ _ _ _ ⟨⟨_, rfl⟩, rfl⟩ (by assumption) (by assumption)
theorem bytes_intsK {prog : Program} {w : World} {A : Around} {E : Value → Shared → Prop} {s : Shared} {h₀ : Heap} {L D : Addr} {m : Str → Option Value} {news : List (Addr × Obj)} {ys : List Value} {ns : List Int} {Q : Value → Shared → Prop}
    (hh : A.handled = none) (F : Fr h₀ L s.heap m) (N : News h₀ L s.heap news) (hm : (D, LCg.lst ys) ∈ news) (hi : IntsAre ys ns) (hr : ∀ n ∈ ns, 0 ≤ n ∧ n < 256) (hz : ns.length ≤ 16777216)
    (h : ∀ h' t' k, Fr h₀ L h' m → News h₀ L h' news → Q (.bytes (byteArr ns) t') { s with heap := h', toks := k }) : wpAny (model prog w) A (call (.type "bytes") [.ref D]) Q E s :=
  call_bytes_ints (N.isList hm) hi hr (by rw [hi.length, sizeLine_eq]; exact hz) hh fun h' t' k hk => h h' t' k (F.keeps hk) (N.grown hk)
theorem lines_Num_1 : True := by
  k_with "mine call type:bytes" => (k_here; (with_reducible show wpAny _ _ (call (Value.type "bytes") [Value.ref _]) _ _ _); k_dflt (refine' bytes_intsK ?hh ?F ?N ?m ?i ?r ?z ?_); (case hh => k_dflt (exact rfl)); (case F => k_asm); (case N => k_asm); (case m => k_mem); (case i => assumption); (case r => k_dflt (exact octI_in _ _)); (case z => (simp only [List.length_map, rangeKs_length]; omega)); k_whole; intro h' t' k' F' N')
  trivial
set_option maxRecDepth 100000 in
set_option maxHeartbeats 8000000 in
theorem octets_of_calls (w : World) (x size : Int) (t1 t2 : Tok) (h0 : 0 ≤ size) (hz : size ≤ 1000) (own : List (Addr × Obj)) :
    Calls w 8 70 [.int x t1, .int size t2] own (fun r n' => (∃ t, r = .bytes (byteArr (octI x (size - 0).toNat)) t) ∧ n' = own) NoX := by
  unfold Calls
  k_fill
  intro mean mg mb dp un gd cn cs a ccd cl outer A₀ base h₀ L m s Q E B F X N T hk hd hu hret hraise
  refine wpAny_call ?_
  k_dflt (refine' code_defC ?k1 ?k2 ?k3 ?k4 ?k5 ?kA ?kF ?kK ?k6 ?k7 ?k8 ?k9 ?kB ?kD ?_ ?c2 ?c3 ?c4; (case kA => exact rfl); (case kF => exact rfl); (case kK => assumption); (case k1 => k_asm); (case k2 => k_asm); (case k3 => k_asm); (case k4 => k_asm); (case k5 => k_asm); (case k6 => k_is); (case k7 => k_is); (case k8 => ktr_room); (case k9 => exact BindsTo.of_eq rfl); (case kB => exact rfl); (case kD => decide +kernel); (case c2 => exact rfl); (case c3 => exact rfl); (case c4 => exact rfl); k_whole; intro g' L' h' tk' cells' FG' F' N' Y' B' X' T' l1; (try k_lt l1); k_cells Y'; (try simp only [List.cons_append, List.nil_append] at N'); (try dsimp only); (try k_fold))
  k_steps
  all_goals exact hret _ _ _ _ ⟨⟨_, rfl⟩, rfl⟩ (by assumption) (News.perm (by assumption) fun p hp => .tail _ (.tail _ hp))
end Mine
end
section
open PySem PySem.W PyProof.Rows
set_option Elab.async false
namespace Mine
theorem plain_Mem2 : True := by
  w_top off
  k_with_none
  trivial
theorem part_le (d : List UInt8) (i n : Nat) : (part d i n).length ≤ n := by simp [part]; omega
theorem offs_of_lt {l : List (Addr × Obj)} {c : Addr} (h : ∀ p ∈ l, p.1 < c) : ∀ p ∈ l, p.1 ≠ c := fun p hp => Nat.ne_of_lt (h p hp)
theorem lines_Mem2_0 : True := by
  w_top off
  k_with_none
  k_with "mine k_handed" => assumption
  k_with "mine call builtin:len" => (k_here; (with_reducible show wpAny _ _ (call (Value.builtin "len") [Value.ref _]) _ _ _); refine' len_baK ?N ?m ?z ?_; (case N => k_asm); (case m => k_mem); (case z => first | assumption | omega); k_whole; intro _ _)
  k_with "mine call type:bytes" => (k_here; (with_reducible show wpAny _ _ (call (Value.type "bytes") [Value.ref _]) _ _ _); refine' bytes_baK ?N ?m ?z ?_; (case N => k_asm); (case m => k_mem); (case z => first | assumption | omega | (simp only [part_length]; omega)); k_whole; intro _ _)
  k_with "mine leaving ref" => (k_here; first | (refine' leaveNextM ?B ?R ?U ?_; (case B => assumption); (case R => assumption); (case U => assumption); k_whole; intro h' R' U') | (refine' leaveFirstM ?B ?F ?N ?a ?_; (case B => assumption); (case F => k_asm); (case N => k_asm); (case a => assumption); k_whole; intro h' R' U'))
  k_with "mine call type:bytes" => (k_here; (with_reducible show wpAny _ _ (call (Value.type "bytes") [Value.ref _]) _ _ _); refine' bytes_baK ?N ?m ?z ?_; (case N => k_asm); (case m => k_mem); (case z => exact Nat.le_trans (part_le _ _ _) (by omega)); k_whole; intro _ _)
  k_with "mine call ref" => (k_here; k_dflt (show wpAny _ _ (call (Value.ref 126) [Value.ref _, Value.int _ _, Value.int _ _]) _ _ _); k_dflt (refine' Calls.use (want_calls _ ⟨_, _, _, _, _, _, _, _, _, _, _, _, _, _, _, _, _⟩ ?ok _ _ _ _ _) ?B ?F ?X ?N ?T ?k ?d ?u ?_ ?_); (case B => k_asm); (case F => k_asm); (case X => k_asm); (case N => k_asm); (case T => k_asm); (case k => k_dflt (exact rfl)); (case d => ktr_room); (case u => ktr_units); (case ok => exact ⟨by assumption, by assumption, by assumption, by assumption, by assumption⟩); all_goals k_whole; all_goals (first | (intro e C why dx H k tw h' tk' hX R U; obtain ⟨hC, hW, nb⟩ := hX; subst hC; subst hW; have U' := upto_of U; clear U; dsimp only at nb) | (intro r n' h' tk' hP F' N'; obtain ⟨hr, hn, b0, b1, b2⟩ := hP; subst hr; subst hn; dsimp only at b0 b1 b2; (try dsimp only [Mem.led] at N'))))
  k_with "mine call ref" => (k_here; k_dflt (show wpAny _ _ (call (Value.ref 105) [Value.ref _]) _ _ _); k_dflt (refine' Calls.use (size_calls _ ⟨_, _, _, _, _, _, _, _, _, _, _, _, _, _, _, _, _⟩ ?ok _) ?B ?F ?X ?N ?T ?k ?d ?u ?_ ?_); (case B => k_asm); (case F => k_asm); (case X => k_asm); (case N => k_asm); (case T => k_asm); (case k => k_dflt (exact rfl)); (case d => ktr_room); (case u => ktr_units); (case ok => exact ⟨by assumption, by assumption, by assumption, by assumption, by assumption⟩); all_goals k_whole; all_goals (first | (intro e C why dx H k tw h' tk' hX R U; exact hX.elim) | (intro r n' h' tk' hP F' N'; obtain ⟨⟨_, hr⟩, hn⟩ := hP; subst hr; subst hn; (try dsimp only [Mem.led] at N'))))
  k_with "mine call ref" => (k_here; k_dflt (show wpAny _ _ (call (Value.ref 65) [Value.ref _]) _ _ _); k_dflt (refine' Calls.use (number_of_calls _ _ _ ?z1 _ ?z2) ?B ?F ?X ?N ?T ?k ?d ?u ?_ ?_); (case B => k_asm); (case F => k_asm); (case X => k_asm); (case N => k_asm); (case T => k_asm); (case k => k_dflt (exact rfl)); (case d => ktr_room); (case u => ktr_units); (case z1 => exact Nat.le_trans (part_le _ _ _) (by omega)); (case z2 => exact offs_of_lt (by assumption)); all_goals k_whole; all_goals (first | (intro e C why dx H k tw h' tk' hX R U; exact hX.elim) | (intro r n' h' tk' hP F' N'; obtain ⟨⟨_, hr⟩, hn⟩ := hP; subst hr; subst hn)))
  k_with "mine subscriptTail" => (k_here; k_dflt (refine' slice_baK ?F ?N ?m ?z ?a ?b ?c ?_ ?d ?e); (case F => k_asm); (case N => k_asm); (case m => k_mem); (case z => assumption); (case a => omega); (case b => omega); (case c => omega); (case d => with_unfolding_all rfl); (case e => (intro _; with_unfolding_all rfl)); k_whole; intro c' h' F' N' l1; have l2 := l1; (try k_lt l2))
  k_with "mine setItem ref ref" => (k_here; k_dflt (refine' setslice_baK ?F ?N ?U ?m ?n ?a ?b ?c ?d ?z ?_); (case F => k_asm); (case N => k_asm); (case m => k_mem); (case U => k_upd); (case n => k_ne); (case z => assumption); (case a => omega); (case b => omega); (case c => omega); (case d => first | exact partD (by assumption) (by assumption) (by assumption) | (rw [part_length (by omega)]; omega)); k_whole; intro h' F' N')
  trivial
set_option maxRecDepth 100000 in
set_option maxHeartbeats 8000000 in
theorem load_calls (w : World) (M : Mem) (ok : M.Ok) (at' size : Int) (t1 t2 : Tok) (hs : M.d.length ≤ 1000) (own : List (Addr × Obj)) :
    Calls w 12 133 [.ref M.x, .int at' t1, .int size t2] (M.led own) (fun r n' => (∃ t, r = .int (numB (part M.d at'.toNat (at' + size - at').toNat)) t) ∧ n' = M.led own ∧ 0 ≤ at' ∧ 0 ≤ size ∧ at' + size ≤ M.d.length) (fun C y => C = 44 ∧ y = OUT ∧ ¬ (0 ≤ at' ∧ 0 ≤ size ∧ at' + size ≤ (M.d.length : Int))) := by
  obtain ⟨x, dx, b, H1, H2, H3, H4, k1, k2, k3, k4, tp, tq, most, page, pages, d⟩ := M
  obtain ⟨p0, p1, sz, pg, mo⟩ := ok
  dsimp only at p0 p1 sz pg mo
  dsimp only at hs
  unfold Calls
  dsimp only [Mem.led]
  k_fill
  intro mean mg mb dp un gd cn cs a ccd cl outer A₀ base h₀ L m s Q E B F X N T hk hd hu hret hraise
  have hmo : handedIn most = true := by rcases mo with rfl | ⟨_, _, rfl⟩ <;> rfl
  have sz' : d.length ≤ 16777216 := by omega
  refine wpAny_call ?_
  k_dflt cell_enter
  k_steps
  all_goals first
    | exact hret _ _ _ _ ⟨⟨_, rfl⟩, rfl, by assumption, by assumption, by assumption⟩ (by assumption) (by assumption)
    | exact hraise _ _ _ _ _ _ _ _ _ ⟨rfl, rfl, by assumption⟩ (by assumption) ⟨_, by assumption, by assumption⟩
set_option maxRecDepth 100000 in
set_option maxHeartbeats 8000000 in
theorem read_calls (w : World) (M : Mem) (ok : M.Ok) (at' many : Int) (t1 t2 : Tok) (own : List (Addr × Obj)) :
    Calls w 12 147 [.ref M.x, .int at' t1, .int many t2] (M.led own) (fun r n' => (∃ t, r = .bytes (part M.d at'.toNat (at' + many - at').toNat).toArray t) ∧ n' = M.led own ∧ 0 ≤ at' ∧ 0 ≤ many ∧ at' + many ≤ M.d.length) (fun C y => C = 44 ∧ y = OUT ∧ ¬ (0 ≤ at' ∧ 0 ≤ many ∧ at' + many ≤ (M.d.length : Int))) := by
  obtain ⟨x, dx, b, H1, H2, H3, H4, k1, k2, k3, k4, tp, tq, most, page, pages, d⟩ := M
  obtain ⟨p0, p1, sz, pg, mo⟩ := ok
  dsimp only at p0 p1 sz pg mo
  unfold Calls
  dsimp only [Mem.led]
  k_fill
  intro mean mg mb dp un gd cn cs a ccd cl outer A₀ base h₀ L m s Q E B F X N T hk hd hu hret hraise
  have hmo : handedIn most = true := by rcases mo with rfl | ⟨_, _, rfl⟩ <;> rfl
  have sz' : d.length ≤ 16777216 := by omega
  refine wpAny_call ?_
  k_dflt cell_enter
  k_steps
  all_goals first
    | exact hret _ _ _ _ ⟨⟨_, rfl⟩, rfl, by assumption, by assumption, by assumption⟩ (by assumption) (News.perm (by assumption) fun p hp => .tail _ hp)
    | exact hraise _ _ _ _ _ _ _ _ _ ⟨rfl, rfl, by assumption⟩ (by assumption) ⟨_, by assumption, by assumption⟩
set_option maxRecDepth 100000 in
set_option maxHeartbeats 8000000 in
theorem copy_calls (w : World) (M : Mem) (ok : M.Ok) (to begin many : Int) (t1 t2 t3 : Tok) (own : List (Addr × Obj)) (ho : OwnOff own [M.b]) (hxb : @Ne Nat M.x M.b) (hdb : @Ne Nat M.dx M.b) :
    Calls w 12 168 [.ref M.x, .int to t1, .int begin t2, .int many t3] (M.led own) (fun r n' => r = .none ∧ n' = ({ M with d := paste M.d to.toNat (part M.d begin.toNat (begin + many - begin).toNat) } : Mem).led own ∧ 0 ≤ begin ∧ 0 ≤ many ∧ begin + many ≤ M.d.length ∧ 0 ≤ to ∧ to + many ≤ M.d.length)
      (fun C y => C = 44 ∧ y = OUT ∧ ¬ (0 ≤ begin ∧ 0 ≤ many ∧ begin + many ≤ M.d.length ∧ 0 ≤ to ∧ to + many ≤ M.d.length)) := by
  obtain ⟨x, dx, b, H1, H2, H3, H4, k1, k2, k3, k4, tp, tq, most, page, pages, d⟩ := M
  obtain ⟨p0, p1, sz, pg, mo⟩ := ok
  dsimp only at p0 p1 sz pg mo
  dsimp only at ho hxb hdb
  unfold Calls
  dsimp only [Mem.led]
  k_fill
  intro mean mg mb dp un gd cn cs a ccd cl outer A₀ base h₀ L m s Q E B F X N T hk hd hu hret hraise
  have hmo : handedIn most = true := by rcases mo with rfl | ⟨_, _, rfl⟩ <;> rfl
  have sz' : d.length ≤ 16777216 := by omega
  refine wpAny_call ?_
  k_dflt cell_enter
  k_steps
  all_goals first
    | exact hret _ _ _ _ ⟨rfl, rfl, by assumption, by assumption, by assumption, by assumption, by assumption⟩ (by assumption) (News.perm (by assumption) fun p hp => .tail _ hp)
    | exact hraise _ _ _ _ _ _ _ _ _ ⟨rfl, rfl, fun z => by rename ¬ _ => nb; exact nb ⟨z.1, z.2.1, z.2.2.1⟩⟩ (by assumption) ⟨_, by assumption, by assumption⟩
    | exact hraise _ _ _ _ _ _ _ _ _ ⟨rfl, rfl, fun z => by rename ¬ _ => nb; exact nb ⟨z.2.2.2.1, z.2.1, z.2.2.2.2⟩⟩ (by assumption) ⟨_, by assumption, by assumption⟩
end Mine
end
section
open PySem PySem.W PyProof.Rows
set_option Elab.async false
namespace Mine
set_option maxRecDepth 100000
theorem plainAttrs_ba : PlainAttrs "bytearray" :=
  ⟨⟨"bytearray.__getattribute__", by rw [typeLookup_type, builtinLookup_eq_fast]; kernel_rfl, by decide +kernel⟩, by rw [typeLookup_type, builtinLookup_eq_fast]; kernel_rfl⟩
section
variable {prog : Program} {w : World} {A : Around} {E : Value → Shared → Prop} {s : Shared} {h₀ : Heap} {L b : Addr} {m : Str → Option Value} {news : List (Addr × Obj)} {d o : List UInt8}
theorem getMethod_extendK {pl : Sem Bool} {Q : Value × List Value → Shared → Prop} (N : News h₀ L s.heap news) (hm : (b, baObj d) ∈ news) (h : Q (.builtin "bytearray.extend", [.ref b]) s) :
    wpAny (model prog w) A (getMethod (.ref b) "extend" pl) Q E s :=
  getMethod_builtin (ba_typeIs (N.get hm)) plainAttrs_ba BF.slot_extend BF.type_extend (fun a e => by cases e; exact ⟨_, N.get hm, rfl⟩) h
theorem grow_bound {L page pages more : Int} {most : Value} (hG : ¬ GrowNot (L.fdiv page) more pages most) (h0 : 0 ≤ L) (hp : 0 < page) (hp1 : page < 1000) (hpg : pages ≤ 1000) : 0 ≤ more ∧ 0 ≤ more * page ∧ more * page ≤ 1000000 := by
  have h1 : ¬ more < 0 := fun z => hG (.inl z)
  have h2 : ¬ pages < L.fdiv page + more := fun z => hG (.inr (.inl z))
  have h3 : 0 ≤ L.fdiv page := Int.fdiv_nonneg h0 (by omega)
  refine ⟨by omega, Int.mul_nonneg (by omega) (by omega), ?_⟩
  calc more * page ≤ 1000 * page := Int.mul_le_mul_of_nonneg_right (by omega) (by omega)
    _ ≤ 1000000 := by omega
/-- a slice of bytes -/
theorem slice_bytesK {value slice : PySem.Expr} {lo hi : Int} {t1 t2 t : Tok} {Q : Value → Shared → Prop} (hF : Fr h₀ L s.heap m) (hN : News h₀ L s.heap news) (hz : o.length ≤ 16777216) (h0 : 0 ≤ lo) (h1 : lo ≤ hi) (h2 : hi ≤ o.length)
    (h : ∀ h' t' k, Fr h₀ L h' m → News h₀ L h' news → Q (.bytes (part o lo.toNat (hi - lo).toNat).toArray t') { s with heap := h', toks := k })
    (hs : subscripted slice false (.bytes o.toArray t) (.ref s.heap.objs.size) = operate [.ref s.heap.objs.size, .bytes o.toArray t] (getItem (.bytes o.toArray t) (.ref s.heap.objs.size)) := by with_unfolding_all rfl)
    (ht : ∀ r, letTemporaryGo value (.bytes o.toArray t) r = pure () := by intro _; with_unfolding_all rfl) :
    wpAny (model prog w) A (subscriptTail value slice (.bytes o.toArray t) (.ref s.heap.objs.size)) Q E { s with heap := s.heap.push { cls := .type "slice", data := .fields #[.int lo t1, .int hi t2, .none] } } := by
  refine KBc.slice_K hF hN (ks := KBw.bInts o.toArray) rfl (lo := some lo) (hi := some hi) (by constructor) (by constructor) (by rw [KBw.ints_length]; simpa using hz) (fun h' t' k F' N' _ => ?_) hs ht
  have e : KBy.picked o.toArray (some lo) (some hi) = (part o lo.toNat (hi - lo).toNat).toArray := by
    rw [KBc.picked_eq]
    have c1 : clipAt o.toArray.size lo = lo.toNat := by rw [List.size_toArray]; exact clipAt_in h0 (Int.le_trans h1 h2)
    have c2 : clipAt o.toArray.size hi = hi.toNat := by rw [List.size_toArray]; exact clipAt_in (Int.le_trans h0 h1) h2
    show ((o.drop (clipAt o.toArray.size lo)).take (clipAt o.toArray.size hi - clipAt o.toArray.size lo)).toArray = _
    rw [c1, c2, diffT h0 h1]
    rfl
  rw [e]
  exact h h' t' k F' N'
end
end Mine
end
section
open PySem PySem.W PyProof.Rows
set_option Elab.async false
namespace Mine
theorem plain_Mem3 : True := by
  w_top off
  k_with_none
  trivial
theorem lines_Mem3_0 : True := by
  w_top off
  k_with_none
  k_with "mine k_handed" => assumption
  k_with "mine call builtin:len" => (k_here; (with_reducible show wpAny _ _ (call (Value.builtin "len") [Value.ref _]) _ _ _); refine' len_baK ?N ?m ?z ?_; (case N => k_asm); (case m => k_mem); (case z => first | assumption | omega); k_whole; intro _ _)
  k_with "mine call type:bytes" => (k_here; (with_reducible show wpAny _ _ (call (Value.type "bytes") [Value.ref _]) _ _ _); refine' bytes_baK ?N ?m ?z ?_; (case N => k_asm); (case m => k_mem); (case z => first | assumption | omega | (simp only [part_length]; omega)); k_whole; intro _ _)
  k_with "mine leaving ref" => (k_here; first | (refine' leaveNextM ?B ?R ?U ?_; (case B => assumption); (case R => assumption); (case U => assumption); k_whole; intro h' R' U') | (refine' leaveFirstM ?B ?F ?N ?a ?_; (case B => assumption); (case F => k_asm); (case N => k_asm); (case a => assumption); k_whole; intro h' R' U'))
  k_with "mine call type:bytes" => (k_here; (with_reducible show wpAny _ _ (call (Value.type "bytes") [Value.ref _]) _ _ _); refine' bytes_baK ?N ?m ?z ?_; (case N => k_asm); (case m => k_mem); (case z => exact Nat.le_trans (part_le _ _ _) (by omega)); k_whole; intro _ _)
  k_with "mine call ref" => (k_here; k_dflt (show wpAny _ _ (call (Value.ref 77) [Value.int _ _, Value.int _ _, Value.int _ _, Value.str _ _]) _ _ _); k_dflt (refine' Calls.use (want_within_calls _ _ _ _ _ _ _ _ _ _) ?B ?F ?X ?N ?T ?k ?d ?u ?_ ?_); (case B => k_asm); (case F => k_asm); (case X => k_asm); (case N => k_asm); (case T => k_asm); (case k => k_dflt (exact rfl)); (case d => ktr_room); (case u => ktr_units); all_goals k_whole; all_goals (first | (intro e C why dx H k tw h' tk' hX R U; obtain ⟨hC, hW, nb⟩ := hX; subst hC; subst hW; have U' := upto_of U; clear U) | (intro r n' h' tk' hP F' N'; obtain ⟨hr, hn, b0, b1, b2⟩ := hP; subst hr; subst hn)))
  k_with "mine call ref" => (k_here; k_dflt (show wpAny _ _ (call (Value.ref 126) [Value.ref _, Value.int _ _, Value.int _ _]) _ _ _); k_dflt (refine' Calls.use (want_calls _ ⟨_, _, _, _, _, _, _, _, _, _, _, _, _, _, _, _, _⟩ ?ok _ _ _ _ _) ?B ?F ?X ?N ?T ?k ?d ?u ?_ ?_); (case B => k_asm); (case F => k_asm); (case X => k_asm); (case N => k_asm); (case T => k_asm); (case k => k_dflt (exact rfl)); (case d => ktr_room); (case u => ktr_units); (case ok => exact ⟨by assumption, by assumption, by assumption, by assumption, by assumption⟩); all_goals k_whole; all_goals (first | (intro e C why dx H k tw h' tk' hX R U; obtain ⟨hC, hW, nb⟩ := hX; subst hC; subst hW; have U' := upto_of U; clear U; dsimp only at nb) | (intro r n' h' tk' hP F' N'; obtain ⟨hr, hn, b0, b1, b2⟩ := hP; subst hr; subst hn; dsimp only at b0 b1 b2; (try dsimp only [Mem.led] at N'))))
  k_with "mine call ref" => (k_here; k_dflt (show wpAny _ _ (call (Value.ref 105) [Value.ref _]) _ _ _); k_dflt (refine' Calls.use (size_calls _ ⟨_, _, _, _, _, _, _, _, _, _, _, _, _, _, _, _, _⟩ ?ok _) ?B ?F ?X ?N ?T ?k ?d ?u ?_ ?_); (case B => k_asm); (case F => k_asm); (case X => k_asm); (case N => k_asm); (case T => k_asm); (case k => k_dflt (exact rfl)); (case d => ktr_room); (case u => ktr_units); (case ok => exact ⟨by assumption, by assumption, by assumption, by assumption, by assumption⟩); all_goals k_whole; all_goals (first | (intro e C why dx H k tw h' tk' hX R U; exact hX.elim) | (intro r n' h' tk' hP F' N'; obtain ⟨⟨_, hr⟩, hn⟩ := hP; subst hr; subst hn; (try dsimp only [Mem.led] at N'))))
  k_with "mine call builtin:len" => (k_here; (with_reducible show wpAny _ _ (call (Value.builtin "len") [Value.bytes _ _]) _ _ _); refine' len_bytesL ?z ?_; (case z => omega))
  k_with "mine wpC" => (k_here; (with_reducible show wpC _ _ (execs (_ :: _) _) _ _ _); with_reducible refine wpC_execs_consA ?_)
  k_with "mine wpC" => (k_here; (with_reducible show wpC _ _ (execs [] _) _ _ _); with_reducible refine wpC_execs_nil ?_)
  k_with "mine wpC" => (k_here; (with_reducible show wpC _ _ (execs (Stmt.Assign [Expr.Subscript _ _ _] _ _ :: _) _) _ _ _); k_dflt (refine wpC_execs_cons (wpC_Assign_Subscript ?_ (by with_unfolding_all rfl))))
  k_with "mine wpC" => (k_here; (with_reducible show wpC _ _ (execs (Stmt.Expr (Expr.Call (Expr.Attribute (Expr.Attribute _ _ _) _ _) _ _ _) _ :: _) _) _ _ _); k_dflt (refine wpC_execs_cons (wpC_Expr ?_ (by with_unfolding_all rfl) (by with_unfolding_all rfl))))
  k_with "mine wpC" => (k_here; (with_reducible show wpC _ _ (execs (Stmt.Assign [Expr.Attribute _ _ _] (Expr.Call _ _ _ _) _ :: _) _) _ _ _); k_dflt (refine wpC_execs_cons (wpC_Assign_Attribute ?_ (by with_unfolding_all rfl))))
  k_with "mine wpC" => (k_here; (with_reducible show wpC _ _ (eval (Expr.Call (Expr.Attribute _ _ _) _ _ _) _) _ _ _); k_dflt (refine wpC_Call_Attr ?_ (by with_unfolding_all rfl)))
  k_with "mine wpC" => (k_here; (with_reducible show wpC _ _ (eval (Expr.Call (Expr.Name _ _) _ _ _) _) _ _ _); k_dflt (refine wpC_Call_Name ?_))
  k_with "mine wpC" => (k_here; (with_reducible show wpC _ _ (callWith _ (Value.builtin _) _ _ _) _ _ _); k_dflt (refine wpC_callWith_mach (by with_unfolding_all rfl) ?_ (by with_unfolding_all rfl) (by with_unfolding_all rfl)))
  k_with "mine wpC" => (k_here; (with_reducible show wpC _ _ (setItem (Value.ref _) (Value.ref _) (Value.bytes _ _)) _ _ _); k_dflt (refine' setslice_bytesK ?g ?F ?N ?U ?a ?b ?c ?d ?z ?_; (case g => exact rfl); (case F => k_asm); (case N => k_asm); (case U => k_upd); (case z => assumption); (case a => omega); (case b => omega); (case c => omega); (case d => first | exact partD (by assumption) (by assumption) (by assumption) | omega | (simp only [List.length_map, octI_length]; omega) | ((show ((fillU _ _).length : Int) = _); rw [fillU_length]; omega) | (rw [part_length (by omega)]; omega)); k_whole; intro h' F' N'))
  k_with "mine call type:bytes" => (k_here; (with_reducible show wpAny _ _ (call (Value.type "bytes") [Value.ref _]) _ _ _); k_dflt (refine' bytes_oneK ?hh ?F ?N ?m ?r ?_); (case hh => k_dflt (exact rfl)); (case F => k_asm); (case N => k_asm); (case m => k_mem); (case r => (rw [bitAnd_m8]; omega)); k_whole; intro h' t' k' F' N')
  k_with "mine binaryOp Mult bytes int" => (k_here; k_dflt (refine' bytes_mul_any ?b ?c ?d ?e ?_); (case b => exact List.cons_ne_nil _ _); (case c => omega); (case d => omega); (case e => exact Nat.le_of_ble_eq_true rfl); k_whole; intro t' k')
  k_with "mine binaryOp LShift int int" => (k_here; (refine' lshift_int_small ?a ?b ?c ?_); (case a => omega); (case b => omega); (case c => decide))
  k_with "mine call ref" => (k_here; k_dflt (show wpAny _ _ (call (Value.ref 70) [Value.int _ _, Value.int _ _]) _ _ _); k_dflt (refine' Calls.use (octets_of_calls _ _ _ _ _ ?z1 ?z2 _) ?B ?F ?X ?N ?T ?k ?d ?u ?_ ?_); (case B => k_asm); (case F => k_asm); (case X => k_asm); (case N => k_asm); (case T => k_asm); (case k => k_dflt (exact rfl)); (case d => ktr_room); (case u => ktr_units); (case z1 => omega); (case z2 => omega); all_goals k_whole; all_goals (first | (intro e C why dx H k tw h' tk' hX R U; exact hX.elim) | (intro r n' h' tk' hP F' N'; obtain ⟨⟨_, hr⟩, hn⟩ := hP; subst hr; subst hn)))
  trivial
set_option maxRecDepth 100000 in
set_option maxHeartbeats 8000000 in
theorem write_calls (w : World) (M : Mem) (ok : M.Ok) (at' : Int) (o : List UInt8) (hol : o.length ≤ 1000000) (t1 t2 : Tok) (own : List (Addr × Obj)) (ho : OwnOff own [M.b]) (hxb : @Ne Nat M.x M.b) (hdb : @Ne Nat M.dx M.b) :
    CallsC w 12 154 [.ref M.x, .int at' t1, .bytes o.toArray t2] (M.led own) (fun r n' => r = .none ∧ n' = ({ M with d := paste M.d at'.toNat o } : Mem).led own ∧ 0 ≤ at' ∧ at' + o.length ≤ M.d.length)
      (fun C y => C = 44 ∧ y = OUT ∧ ¬ (0 ≤ at' ∧ at' + o.length ≤ M.d.length)) := by
  obtain ⟨x, dx, b, H1, H2, H3, H4, k1, k2, k3, k4, tp, tq, most, page, pages, d⟩ := M
  obtain ⟨p0, p1, sz, pg, mo⟩ := ok
  dsimp only at p0 p1 sz pg mo
  dsimp only at ho hxb hdb
  unfold CallsC
  dsimp only [Mem.led]
  k_fill
  intro mean mg mb dp un cn cs a ccd cl outer A₀ base h₀ L m s Q E B F X N T hk hd hu hret hraise
  have hmo : handedIn most = true := by rcases mo with rfl | ⟨_, _, rfl⟩ <;> rfl
  have sz' : d.length ≤ 16777216 := by omega
  refine wpC_call ?_
  k_dflt (refine' codeC_def ?k1 ?k2 ?k3 ?k4 ?k5 ?kA ?kF ?kK ?k6 ?k7 ?k8 ?k9 ?kB ?_ ?c2 ?c3 ?c4 ?c5; (case kA => exact rfl); (case kF => exact rfl); (case kK => assumption); (case k1 => k_asm); (case k2 => k_asm); (case k3 => k_asm); (case k4 => k_asm); (case k5 => k_asm); (case k6 => k_is); (case k7 => k_is); (case k8 => ktr_room); (case k9 => exact BindsTo.of_eq rfl); (case c5 => decide); (case kB => exact locs rfl); (case c2 => exact rfl); (case c3 => exact rfl); (case c4 => exact rfl); k_whole; intro g' L' h' tk' FG' F' N' B' X' T'; (try dsimp only))
  k_steps
  all_goals first
    | exact hret _ _ _ _ ⟨rfl, rfl, by assumption, by assumption⟩ (by assumption) (by assumption)
    | exact hraise _ _ _ _ _ _ _ _ _ ⟨rfl, rfl, fun z => by rename ¬ _ => nb; exact nb ⟨z.1, by omega, z.2⟩⟩ (by assumption) ⟨_, by assumption, by assumption⟩
set_option maxRecDepth 100000 in
set_option maxHeartbeats 8000000 in
theorem store_calls (w : World) (M : Mem) (ok : M.Ok) (at' size x : Int) (hsz : M.d.length ≤ 1000) (t1 t2 t3 : Tok) (own : List (Addr × Obj)) (ho : OwnOff own [M.b]) (hxb : @Ne Nat M.x M.b) (hdb : @Ne Nat M.dx M.b) :
    CallsC w 12 140 [.ref M.x, .int at' t1, .int size t2, .int x t3] (M.led own) (fun r n' => r = .none ∧ n' = ({ M with d := paste M.d at'.toNat (toU (octI (Builtin.bitAnd x (1 * 2 ^ (8 * size).toNat - 1)) (size - 0).toNat)) } : Mem).led own ∧ 0 ≤ at' ∧ 0 ≤ size ∧ at' + size ≤ M.d.length)
      (fun C y => C = 44 ∧ y = OUT ∧ ¬ (0 ≤ at' ∧ 0 ≤ size ∧ at' + size ≤ (M.d.length : Int))) := by
  obtain ⟨x, dx, b, H1, H2, H3, H4, k1, k2, k3, k4, tp, tq, most, page, pages, d⟩ := M
  obtain ⟨p0, p1, sz, pg, mo⟩ := ok
  dsimp only at p0 p1 sz pg mo
  dsimp only at ho hxb hdb
  dsimp only at hsz
  unfold CallsC
  dsimp only [Mem.led]
  k_fill
  intro mean mg mb dp un cn cs a ccd cl outer A₀ base h₀ L m s Q E B F X N T hk hd hu hret hraise
  have hmo : handedIn most = true := by rcases mo with rfl | ⟨_, _, rfl⟩ <;> rfl
  have sz' : d.length ≤ 16777216 := by omega
  refine wpC_call ?_
  k_dflt (refine' codeC_def ?k1 ?k2 ?k3 ?k4 ?k5 ?kA ?kF ?kK ?k6 ?k7 ?k8 ?k9 ?kB ?_ ?c2 ?c3 ?c4 ?c5; (case kA => exact rfl); (case kF => exact rfl); (case kK => assumption); (case k1 => k_asm); (case k2 => k_asm); (case k3 => k_asm); (case k4 => k_asm); (case k5 => k_asm); (case k6 => k_is); (case k7 => k_is); (case k8 => ktr_room); (case k9 => exact BindsTo.of_eq rfl); (case c5 => decide); (case kB => exact locs rfl); (case c2 => exact rfl); (case c3 => exact rfl); (case c4 => exact rfl); k_whole; intro g' L' h' tk' FG' F' N' B' X' T'; (try dsimp only))
  k_steps
  all_goals first
    | exact hret _ _ _ _ ⟨rfl, rfl, by assumption, by assumption, by assumption⟩ (by assumption) (by assumption)
    | exact hraise _ _ _ _ _ _ _ _ _ ⟨rfl, rfl, by assumption⟩ (by assumption) ⟨_, by assumption, by assumption⟩
set_option maxRecDepth 100000 in
set_option maxHeartbeats 8000000 in
theorem fill_calls (w : World) (M : Mem) (ok : M.Ok) (at' x many : Int) (t1 t2 t3 : Tok) (own : List (Addr × Obj)) (ho : OwnOff own [M.b]) (hxb : @Ne Nat M.x M.b) (hdb : @Ne Nat M.dx M.b) :
    CallsC w 12 161 [.ref M.x, .int at' t1, .int x t2, .int many t3] (M.led own) (fun r n' => r = .none ∧ n' = ({ M with d := paste M.d at'.toNat (fillU x many.toNat) } : Mem).led own ∧ 0 ≤ at' ∧ 0 ≤ many ∧ at' + many ≤ M.d.length)
      (fun C y => C = 44 ∧ y = OUT ∧ ¬ (0 ≤ at' ∧ 0 ≤ many ∧ at' + many ≤ (M.d.length : Int))) := by
  obtain ⟨x, dx, b, H1, H2, H3, H4, k1, k2, k3, k4, tp, tq, most, page, pages, d⟩ := M
  obtain ⟨p0, p1, sz, pg, mo⟩ := ok
  dsimp only at p0 p1 sz pg mo
  dsimp only at ho hxb hdb
  unfold CallsC
  dsimp only [Mem.led]
  k_fill
  intro mean mg mb dp un cn cs a ccd cl outer A₀ base h₀ L m s Q E B F X N T hk hd hu hret hraise
  have hmo : handedIn most = true := by rcases mo with rfl | ⟨_, _, rfl⟩ <;> rfl
  have sz' : d.length ≤ 16777216 := by omega
  refine wpC_call ?_
  k_dflt (refine' codeC_def ?k1 ?k2 ?k3 ?k4 ?k5 ?kA ?kF ?kK ?k6 ?k7 ?k8 ?k9 ?kB ?_ ?c2 ?c3 ?c4 ?c5; (case kA => exact rfl); (case kF => exact rfl); (case kK => assumption); (case k1 => k_asm); (case k2 => k_asm); (case k3 => k_asm); (case k4 => k_asm); (case k5 => k_asm); (case k6 => k_is); (case k7 => k_is); (case k8 => ktr_room); (case k9 => exact BindsTo.of_eq rfl); (case c5 => decide); (case kB => exact locs rfl); (case c2 => exact rfl); (case c3 => exact rfl); (case c4 => exact rfl); k_whole; intro g' L' h' tk' FG' F' N' B' X' T'; (try dsimp only))
  k_steps
  all_goals first
    | exact hret _ _ _ _ ⟨rfl, rfl, by assumption, by assumption, by assumption⟩ (by assumption) (News.perm (by assumption) fun p hp => .tail _ hp)
    | exact hraise _ _ _ _ _ _ _ _ _ ⟨rfl, rfl, by assumption⟩ (by assumption) ⟨_, by assumption, by assumption⟩
end Mine
end
section
open PySem PySem.W PyProof.Rows PySem.Calls
set_option Elab.async false
namespace Mine
set_option maxRecDepth 100000
/-- the ground holds what the base holds, and the frame's names -/
def Min (base g : Heap) (L : Addr) : Prop := ∀ b o, g.get? b = some o → b = L ∨ base.get? b = some o
section
variable {prog : Program} {w : World} {A₀ A : Around} {s : Shared} {h₀ : Heap} {L : Addr} {m mg mb : Str → Option Value} {env : Env} {news : List (Addr × Obj)} {K : Frag} {p : Program} {loose : List Str} {mean : ExcName → Option Value}
  {R : Result → Shared → Prop}
theorem ground_min (B : Below A₀ h₀ [] h₀) (F : Fr h₀ L s.heap m) (hA : A.frames = some [env]) (hf : env.frame = some L) (hke : env.scope.kind = .function) :
    ∃ g, Fr h₀ L g m ∧ Below A h₀ [env] g ∧ h₀.StaysIn g ∧ Min h₀ g L ∧ (∀ b o, g.get? b = some o → s.heap.get? b = some o) ∧ g.objs.size ≤ s.heap.objs.size ∧ (∀ b, h₀.get? b = none → b ≠ L → g.get? b = none) ∧
      ∀ (R : Result → Shared → Prop) v s', LeaveS0 [L] h₀ L m g R v s' → R (.ok (.ret v)) s' := by
  let junk := (List.range s.heap.objs.size).filter (fun b => (h₀.get? b).isNone && b != L)
  have jn : ∀ b, b ∈ junk ↔ b < s.heap.objs.size ∧ h₀.get? b = none ∧ b ≠ L := by
    intro b
    simp [junk, List.mem_filter, List.mem_range, Option.isNone_iff_eq_none]
  have nm : ∀ b o, h₀.get? b = some o → b ∉ junk := fun b o e q => by
    rw [((jn b).mp q).2.1] at e; cases e
  have nL : L ∉ junk := fun q => ((jn L).mp q).2.2 rfl
  have st : h₀.StaysIn (hideAll s.heap junk) := fun b o e => hideAll_get _ (F.keep b o e) (nm b o e)
  obtain ⟨oL, es, ep, hL, hLd, hLk, hLf⟩ := F.ns
  have hLg := hideAll_get junk hL nL
  have B₁ := pushX B F hf hke
  have nL₀ : h₀.get? L = none := kts_self F
  refine ⟨hideAll s.heap junk, ⟨⟨oL, es, ep, hLg, hLd, hLk, hLf⟩, st, F.above⟩, ⟨hA, fun b o e => st b o (B.stays b o e), funFrames_hideAll B₁.frames fun env' he b hb hf' => ?_⟩, st, fun b o e => ?_, fun b o e => of_hideAll _ e, Nat.le_of_eq (hideAll_size _ _), fun b hb hn => ?_, fun R v s' hl => ?_⟩
  · cases he with
    | head => exact nL ((Option.some.inj (hf.symm.trans hf') : L = b) ▸ hb)
    | tail _ he => cases he
  · by_cases hbL : b = L
    · exact .inl hbL
    · right
      cases q : h₀.get? b with
      | some o' => have := st _ _ q; rw [e] at this; exact this.symm
      | none =>
        have hm : b ∈ junk := (jn b).mpr ⟨Heap.lt_size (of_hideAll _ e), q, hbL⟩
        rw [hideAll_none _ hm] at e; cases e
  · cases q : (hideAll s.heap junk).get? b with
    | none => rfl
    | some o =>
      have hm : b ∈ junk := (jn b).mpr ⟨Heap.lt_size (of_hideAll _ q), hb, hn⟩
      rw [hideAll_none _ hm] at q; cases q
  · obtain ⟨g', L', m', news', T', F', N', k⟩ := hl
    obtain ⟨sl, hs⟩ := T'.up hLg
    refine k ⟨⟨_, es, ep, F'.keep _ _ hs, hLd, hLk, hLf⟩, fun b o e => F'.keep b o (T'.other b o (st b o e) (fun q => by
      rw [List.mem_singleton.mp q, nL₀] at e; cases e)), F.above⟩ fun p hp => ⟨(N' p hp).1, fun q => ?_, ?_⟩
    · have := (N' p hp).2.2; rw [q, hs] at this; cases this
    · cases q : h₀.get? p.1 with
      | none => rfl
      | some o =>
        obtain ⟨sl', hs'⟩ := T'.up (st _ _ q)
        have := (N' p hp).2.2
        rw [hs'] at this
        cases this

variable {name qual : Str} {params : Arguments} {body : List Stmt} {scope : Scope} {dV kV doc pm cdv ct oc : Value} {an od : Option Addr} {osl : Array (Option Value)} {f : Addr} {args : Args} {binds : List (Str × Value)}
/-- a def that may catch is entered from law's frame, over clean stacks -/
theorem codeC_defT (B : Below A₀ h₀ [] h₀) (F : Fr h₀ L s.heap m) (X₀ : K.In h₀) (N : News h₀ L s.heap news) (T : Top p loose mean mg mb h₀) (hA : A.frames = some [env]) (hf : env.frame = some L) (hke : env.scope.kind = .function)
    (ho : K.lookup f = some ⟨oc, od, .func (fnOf name qual params body scope dV kV doc pm an cdv ct), osl⟩) (hcd : codeIn K cdv qual = true) (hroom : A.depth < recursionLimit)
    (hbind : BindsTo s (fnOf name qual params body scope dV kV doc pm an cdv ct) args binds) (hloc : ∀ y ∈ binds, scope.names.lookup y.1 = some .local)
    (h : ∀ g L' h₁ tk, Fr h₀ L g m → Fr g L' h₁ (fun y => binds.reverse.lookup y) → News g L' h₁ news → Below A h₀ [env] g → K.In g → Top p loose mean mg mb g → Min h₀ g L →
      wpC (model prog w) (A.deeper (envOf qual scope L' f cdv)) (execs body (envOf qual scope L' f cdv))
        (fun fl s' => LeaveS0 [L] h₀ L m g R (match fl with | .ret v => v | _ => .none) s')
        (fun e s' => wpAny (model prog w) (A.deeper (envOf qual scope L' f cdv)) (leaving (envOf qual scope L' f cdv) e) (fun _ s'' => R (.error e) s'') (fun e' s'' => R (.error e') s'') s')
        { s with heap := h₁, toks := tk })
    (hco : scope.isCoroutine = false) (hgen : scope.isGenerator = false) (hk : scope.kind = .function)
    (hcell : ∀ x ∈ scope.names, x.2 ≠ .cell) : codeC (model prog w) A (.call (.ref f) args) R s := by
  obtain ⟨g, FG, BG, st, mn, hgs, hsz, hno, lv⟩ := ground_min B F hA hf hke
  have hlim := T.nolimit.keeps F.keep
  refine codeC_call_function hroom ((X₀.keeps F.keep) _ _ ho) rfl hco hgen rfl (codeRec_of (X₀.keeps F.keep) hcd) (hbind _ _ _ _ ?_)
  refine wpAny_newFunctionEnv hcell hloc (fun h₁ hns₀ hsb₀ => ⟨hlim.fresh _ hsb₀, codeC_func ?_⟩) hk
  have hk₁ : ∀ b o, s.heap.get? b = some o → h₁.get? b = some o := fun b o e => hsb₀.extBut b o (Nat.ne_of_lt (Heap.lt_size e)) (Heap.get?_push_of_some _ e)
  exact wpC_mono (h _ s.heap.objs.size h₁ _ FG ⟨hns₀, fun b o e => hk₁ b o (hgs b o e), hsz⟩
    (fun p hp => ⟨hk₁ _ _ (N p hp).1, Nat.ne_of_lt (Heap.lt_size (N p hp).1), hno _ (N p hp).2.2 (N p hp).2.1⟩) BG (X₀.keeps st) (T.keeps st) mn) (fun fl s' hl => lv R _ _ hl) fun _ _ y => y
/-- the same by the library's rules -/
theorem code_defT (B : Below A₀ h₀ [] h₀) (F : Fr h₀ L s.heap m) (X₀ : K.In h₀) (N : News h₀ L s.heap news) (T : Top p loose mean mg mb h₀) (hA : A.frames = some [env]) (hf : env.frame = some L) (hke : env.scope.kind = .function)
    (ho : K.lookup f = some ⟨oc, od, .func (fnOf name qual params body scope dV kV doc pm an cdv ct), osl⟩) (hcd : codeIn K cdv qual = true) (hroom : A.depth < recursionLimit)
    (hbind : BindsTo s (fnOf name qual params body scope dV kV doc pm an cdv ct) args binds) (hloc : ∀ y ∈ binds, scope.names.lookup y.1 = some .local)
    (h : ∀ g L' h₁, Fr h₀ L g m → Fr g L' h₁ (fun y => binds.reverse.lookup y) → News g L' h₁ news → Below A h₀ [env] g → K.In g → Top p loose mean mg mb g → Min h₀ g L →
      wpAny (model prog w) (A.deeper (envOf qual scope L' f cdv)) (execs body (envOf qual scope L' f cdv))
        (fun fl s' => LeaveS0 [L] h₀ L m g R (match fl with | .ret v => v | _ => .none) s')
        (fun e s' => wpAny (model prog w) (A.deeper (envOf qual scope L' f cdv)) (leaving (envOf qual scope L' f cdv) e) (fun _ s'' => R (.error e) s'') (fun e' s'' => R (.error e') s'') s')
        { s with heap := h₁, toks := s.toks + binds.length })
    (hco : scope.isCoroutine = false) (hgen : scope.isGenerator = false) (hk : scope.kind = .function)
    (hcell : ∀ x ∈ scope.names, x.2 ≠ .cell) : codeAny (model prog w) A (.call (.ref f) args) R s := by
  obtain ⟨g, FG, BG, st, mn, hgs, hsz, hno, lv⟩ := ground_min B F hA hf hke
  have X := X₀.keeps F.keep
  refine codeAny_call_def (fd := fnOf name qual params body scope dV kV doc pm an cdv ct) (body := body) (binds := binds) hroom (X _ _ ho) rfl (T.nolimit.keeps F.keep) (codeRec_of X hcd) rfl hbind hcell hloc (fun h₁ hns hk₁ => ?_) hco hgen hk
  exact wpAny_mono (h _ s.heap.objs.size h₁ FG ⟨hns, fun b o e => hk₁ b o (hgs b o e), hsz⟩
    (fun p hp => ⟨hk₁ _ _ (N p hp).1, Nat.ne_of_lt (Heap.lt_size (N p hp).1), hno _ (N p hp).2.2 (N p hp).2.1⟩) BG (X₀.keeps st) (T.keeps st) mn) (fun fl s' hl => lv R _ _ hl) fun _ _ y => y
end

section
variable {M : Model} {A : Around} {E : Value → Shared → Prop} {s : Shared} {env : Env}
theorem wpC_Try_except {body orelse : List Stmt} {h₀ : ExceptHandler} {hs : List ExceptHandler} {pos : Pos} {Q : Flow → Shared → Prop}
    (h : wpC M A (execs body env) (fun f s₁ => match f with | .next => wpC M A (execs orelse env) Q E s₁ | f => Q f s₁)
      (fun e s₁ => wpAny M A (noteFrame e env) (fun _ s₂ => wpAny M A (setFlight e none) (fun _ s₃ => wpAny M A (handleBy e env (h₀ :: hs)) Q E s₃) E s₂) E s₁) s) :
    wpC M A (exec (.Try body (h₀ :: hs) orelse [] pos) env) Q E s := by
  rw [arm_exec_Try]
  refine wpC_bindA (wpAny_standAt ?_)
  unfold tryStmt
  simp only [List.isEmpty_nil, if_true, List.isEmpty_cons, Bool.false_and, Bool.false_eq_true, if_false]
  refine wpC_bind (wpC_attempt (wpC_mono h (fun f s₁ h₁ => ?_) fun e s₁ h₁ => ?_))
  · cases f <;> first | exact h₁ | exact wpC_pure h₁
  · exact wpC_of (wpAny_bind (wpAny_mono h₁ (fun _ _ h₂ => wpAny_bind h₂) fun _ _ x => x))
end
section
variable {prog : Program} {w : World} {A₀ : Around} {E : Value → Shared → Prop} {s' : Shared} {h₀ g G h₅ : Heap} {L L' a e C N dx : Addr} {m' mg mb : Str → Option Value} {env : Env} {news : List (Addr × Obj)} {KF : Frag} {p : Program} {loose : List Str} {mean : ExcName → Option Value}
  {name : Str} {scope : Scope} {cd : Value} {Q : Flow → Shared → Prop} {x n : Str} {np pos : Pos} {b₀ : Stmt} {suite : List Stmt} {rest : List ExceptHandler}
theorem ground_up (K₁ : Below A₀ h₀ [env] g) (hmin : Min h₀ g L) (hf : env.frame = some L) (F : Fr g L' G m') (hBh : h₀.StaysIn h₅) (hsm : G.UpToSlots h₅) :
    ∃ g', KtsTurn [L] g g' ∧ Fr g' L' h₅ m' ∧ Below A₀ h₀ [env] g' ∧ Min h₀ g' L := by
  obtain ⟨hkm, ⟨L₀, oL, hf₀, hn₀, hg₀, hd₀⟩, _⟩ := K₁.frames
  obtain rfl : L = L₀ := Option.some.inj (hf.symm.trans hf₀)
  obtain ⟨T, S⟩ := kts_turn_at (h := h₅) (fs := [L]) (g := g)
    (fun b hb => by rw [List.mem_singleton.mp hb]; exact ⟨oL, hg₀⟩)
    (fun b o e nm => by
      rcases hmin b o e with z | z
      · exact absurd (z ▸ List.mem_singleton.mpr rfl) nm
      · exact hBh b o z)
    (fun b o e hm => by
      rw [List.mem_singleton.mp hm] at e ⊢
      rw [hg₀] at e; cases e
      exact hsm L oL (F.keep L oL hg₀) hd₀)
  refine ⟨_, T, ⟨hsm.ns F.ns, S, by rw [T.size]; exact F.above⟩, ⟨K₁.stack, fun b o e => T.other b o (K₁.stays b o e) (fun hm => by
    rw [List.mem_singleton.mp hm, hn₀] at e; cases e), K₁.frames.of_keeps fun b o e _ => ?_⟩, fun b o e => ?_⟩
  · obtain ⟨sl, hs⟩ := T.up e
    exact ⟨_, hs, rfl⟩
  · by_cases hb : b = L
    · exact .inl hb
    · right
      cases q : g.get? b with
      | none => rw [T.none_ b q] at e; cases e
      | some o' =>
        rw [T.other b o' q (fun hm => hb (List.mem_singleton.mp hm))] at e; cases e
        exact (hmin b o q).resolve_left hb
theorem caught_M (R : RaisedM h₀ [envOf name scope L' a cd, env] e C dx news s'.heap) (F : Fr g L' G m') (K₁ : Below A₀ h₀ [env] g) (hmin : Min h₀ g L) (hf : env.frame = some L) (hsm : G.UpToSlots s'.heap) (XB : KF.In h₀) (TB : Top p loose mean mg mb h₀)
    (hC : FaultCls KF C N) (ex : nsIn KF mainGlobals x = some (some (.ref C)))
    (k : ∀ h' g' oe tk, KtsTurn [L] g g' → Fr g' L' h' (fun y => if y = n then some (.ref e) else m' y) → News g' L' h' ((e, oe) :: news) → oe.cls = .ref C → oe.dict = some dx → notCls oe = true → Below A₀ h₀ [env] g' → KF.In g' → Top p loose mean mg mb g' → Min h₀ g' L →
      wpAny (model prog w) ((A₀.deeper (envOf name scope L' a cd)).mark (some (.ref e))) (execs (b₀ :: suite) (envOf name scope L' a cd))
        (fun f s₄ => wpAny (model prog w) (A₀.deeper (envOf name scope L' a cd)) (do bindName (envOf name scope L' a cd) n .none; unbindBehindTheSuite (envOf name scope L' a cd) n pos) (fun _ s₅ => Q f s₅) E s₄)
        (AsSuiteRaised (model prog w) ((A₀.deeper (envOf name scope L' a cd)).mark (some (.ref e))) (envOf name scope L' a cd) n pos (notedBy (model prog w) ((A₀.deeper (envOf name scope L' a cd)).mark (some (.ref e))) (envOf name scope L' a cd) (cameBackBy (model prog w) (A₀.deeper (envOf name scope L' a cd)) (envOf name scope L' a cd) E)))
        { s' with heap := h', toks := tk })
    (hk : scope.kind = .function := by rfl) (hlo : (envOf name scope L' a cd).kindOf n = some .local := by rfl) (hx : (envOf name scope L' a cd).kindOf x = some .globalImplicit := by rfl) (hd : (x == ("__debug__" : Str)) = false := by decide) :
    wpAny (model prog w) (A₀.deeper (envOf name scope L' a cd)) (noteFrame (.ref e) (envOf name scope L' a cd))
      (fun _ s₂ => wpAny (model prog w) (A₀.deeper (envOf name scope L' a cd)) (setFlight (.ref e) none) (fun _ s₃ =>
        wpAny (model prog w) (A₀.deeper (envOf name scope L' a cd)) (handleBy (.ref e) (envOf name scope L' a cd) (.ExceptHandler (some (.Name x np)) (some n) (b₀ :: suite) pos :: rest)) Q E s₃) E s₂) E s' := by
  obtain ⟨Bh, hB, hl, hu⟩ := R
  refine noteNextM (Around.frames_deeper K₁.stack) rfl hu fun h₄ u4 sm4 => ?_
  refine landM u4 fun h₅ u5 sm5 => ?_
  have hsm₅ := hsm.trans (sm4.trans sm5).up
  obtain ⟨g₅, T₅, F₅, K₅, mn₅⟩ := ground_up K₁ hmin hf F (fun b o q => u5.1 b o (hB b o q)) hsm₅
  have X₅ : KF.In g₅ := XB.keeps K₅.stays
  have P₅ : TopRead p loose mg mb g₅ := topRead_of (TB.keeps K₅.stays)
  obtain ⟨_, _, _, oe, vs, he, hc, hxd, hdd, _⟩ := id u5
  obtain ⟨nm, q', bs, sub, k0, k1, k2, k3, k5, hK⟩ := id hC
  have hC₅ := F₅.keep _ _ (X₅ _ _ hK)
  refine wpAny_handleBy_cons (codeAny_handlers_test (name_K F₅ X₅ P₅ ex ?_ hk hx hd)) (by intro q; cases q)
  refine wpAny_excMatches_sub_self hC₅ he hc (by decide) (codeAny_handlers_suite_as ?_)
  refine landM u5 fun h₆ u6 sm6 => ?_
  have hsm₆ := hsm₅.trans sm6.up
  obtain ⟨g₆, T₆, F₆, K₆, mn₆⟩ := ground_up K₁ hmin hf F (fun b o q => u6.1 b o (hB b o q)) hsm₆
  obtain ⟨hkb, hen, hfr, oe', vs', he', hc', hx', hd', _⟩ := id u6
  obtain ⟨_, ⟨L1, o1, hf1, hn1, hg1, hd1⟩, _, ⟨L2, o2, hf2, hn2, hg2, hd2⟩, _⟩ := hfr
  obtain rfl : L' = L1 := Option.some.inj hf1
  obtain rfl : L = L2 := Option.some.inj (hf.symm.trans hf2)
  have noL' : e ≠ L' := fun z => by subst z; rw [he'] at hg1; cases hg1; exact hd1 _ hd'
  have noL : e ≠ L := fun z => by subst z; rw [he'] at hg2; cases hg2; exact hd2 _ hd'
  have none_of : ∀ b, b ≠ L → h₀.get? b = none → g₆.get? b = none := fun b h1 h2 => by
    cases q : g₆.get? b with
    | none => rfl
    | some o =>
      rcases mn₆ b o q with z | z
      · exact absurd z h1
      · rw [h2] at z; cases z
  have N₆ : News g₆ L' h₆ ((e, oe') :: news) := fun q hq => by
    rcases List.mem_cons.mp hq with z | hq
    · subst z
      exact ⟨he', noL', none_of _ noL (by
        cases q : h₀.get? e with
        | none => rfl
        | some o => rw [hB e o q] at hen; cases hen)⟩
    · have D := hl q hq
      refine ⟨hkb _ _ D.1, fun z => ?_, none_of _ (fun z => ?_) D.2⟩
      · have := D.1; rw [z, hn1] at this; cases this
      · have := D.1; rw [z, hn2] at this; cases this
  have nc : notCls oe' = true := by unfold notCls; rw [hd']
  refine stN F₆ N₆ (fun h₇ F₇ N₇ => ?_) hk hlo
  exact k h₇ g₆ oe' _ T₆ F₇ N₇ hc' hx' nc K₆ (XB.keeps K₆.stays) (TB.keeps K₆.stays) mn₆
end
end Mine
end
section
open PySem PySem.W PyProof.Rows
set_option Elab.async false
namespace Mine
theorem plain_Mem4 : True := by
  w_top off
  k_with_none
  trivial
theorem lines_Mem4_0 : True := by
  w_top off
  k_with_none
  k_with "mine k_handed" => assumption
  k_with "mine call builtin:len" => (k_here; (with_reducible show wpAny _ _ (call (Value.builtin "len") [Value.ref _]) _ _ _); refine' len_baK ?N ?m ?z ?_; (case N => k_asm); (case m => k_mem); (case z => first | assumption | omega); k_whole; intro _ _)
  k_with "mine call type:bytes" => (k_here; (with_reducible show wpAny _ _ (call (Value.type "bytes") [Value.ref _]) _ _ _); refine' bytes_baK ?N ?m ?z ?_; (case N => k_asm); (case m => k_mem); (case z => first | assumption | omega | (simp only [part_length]; omega)); k_whole; intro _ _)
  k_with "mine leaving ref" => (k_here; first | (refine' leaveNextM ?B ?R ?U ?_; (case B => assumption); (case R => assumption); (case U => assumption); k_whole; intro h' R' U') | (refine' leaveFirstM ?B ?F ?N ?a ?_; (case B => assumption); (case F => k_asm); (case N => k_asm); (case a => assumption); k_whole; intro h' R' U'))
  k_with "mine call type:bytes" => (k_here; (with_reducible show wpAny _ _ (call (Value.type "bytes") [Value.ref _]) _ _ _); refine' bytes_baK ?N ?m ?z ?_; (case N => k_asm); (case m => k_mem); (case z => exact Nat.le_trans (part_le _ _ _) (by omega)); k_whole; intro _ _)
  k_with "mine call ref" => (k_here; k_dflt (show wpAny _ _ (call (Value.ref 77) [Value.int _ _, Value.int _ _, Value.int _ _, Value.str _ _]) _ _ _); k_dflt (refine' Calls.use (want_within_calls _ _ _ _ _ _ _ _ _ _) ?B ?F ?X ?N ?T ?k ?d ?u ?_ ?_); (case B => k_asm); (case F => k_asm); (case X => k_asm); (case N => k_asm); (case T => k_asm); (case k => k_dflt (exact rfl)); (case d => ktr_room); (case u => ktr_units); all_goals k_whole; all_goals (first | (intro e C why dx H k tw h' tk' hX R U; obtain ⟨hC, hW, nb⟩ := hX; subst hC; subst hW; have U' := upto_of U; clear U) | (intro r n' h' tk' hP F' N'; obtain ⟨hr, hn, b0, b1, b2⟩ := hP; subst hr; subst hn)))
  k_with "mine call ref" => (k_here; k_dflt (show wpAny _ _ (call (Value.ref 126) [Value.ref _, Value.int _ _, Value.int _ _]) _ _ _); k_dflt (refine' Calls.use (want_calls _ ⟨_, _, _, _, _, _, _, _, _, _, _, _, _, _, _, _, _⟩ ?ok _ _ _ _ _) ?B ?F ?X ?N ?T ?k ?d ?u ?_ ?_); (case B => k_asm); (case F => k_asm); (case X => k_asm); (case N => k_asm); (case T => k_asm); (case k => k_dflt (exact rfl)); (case d => ktr_room); (case u => ktr_units); (case ok => exact ⟨by assumption, by assumption, by assumption, by assumption, by assumption⟩); all_goals k_whole; all_goals (first | (intro e C why dx H k tw h' tk' hX R U; obtain ⟨hC, hW, nb⟩ := hX; subst hC; subst hW; have U' := upto_of U; clear U; dsimp only at nb) | (intro r n' h' tk' hP F' N'; obtain ⟨hr, hn, b0, b1, b2⟩ := hP; subst hr; subst hn; dsimp only at b0 b1 b2; (try dsimp only [Mem.led] at N'))))
  k_with "mine call ref" => (k_here; k_dflt (show wpAny _ _ (call (Value.ref 105) [Value.ref _]) _ _ _); k_dflt (refine' Calls.use (size_calls _ ⟨_, _, _, _, _, _, _, _, _, _, _, _, _, _, _, _, _⟩ ?ok _) ?B ?F ?X ?N ?T ?k ?d ?u ?_ ?_); (case B => k_asm); (case F => k_asm); (case X => k_asm); (case N => k_asm); (case T => k_asm); (case k => k_dflt (exact rfl)); (case d => ktr_room); (case u => ktr_units); (case ok => exact ⟨by assumption, by assumption, by assumption, by assumption, by assumption⟩); all_goals k_whole; all_goals (first | (intro e C why dx H k tw h' tk' hX R U; exact hX.elim) | (intro r n' h' tk' hP F' N'; obtain ⟨⟨_, hr⟩, hn⟩ := hP; subst hr; subst hn; (try dsimp only [Mem.led] at N'))))
  k_with "mine call builtin:len" => (k_here; (with_reducible show wpAny _ _ (call (Value.builtin "len") [Value.bytes _ _]) _ _ _); refine' len_bytesL ?z ?_; (case z => omega))
  k_with "mine wpC" => (k_here; (with_reducible show wpC _ _ (execs (_ :: _) _) _ _ _); with_reducible refine wpC_execs_consA ?_)
  k_with "mine wpC" => (k_here; (with_reducible show wpC _ _ (execs [] _) _ _ _); with_reducible refine wpC_execs_nil ?_)
  k_with "mine wpC" => (k_here; (with_reducible show wpC _ _ (execs (Stmt.Assign [Expr.Subscript _ _ _] _ _ :: _) _) _ _ _); k_dflt (refine wpC_execs_cons (wpC_Assign_Subscript ?_ (by with_unfolding_all rfl))))
  k_with "mine wpC" => (k_here; (with_reducible show wpC _ _ (execs (Stmt.Expr (Expr.Call (Expr.Attribute (Expr.Attribute _ _ _) _ _) _ _ _) _ :: _) _) _ _ _); k_dflt (refine wpC_execs_cons (wpC_Expr ?_ (by with_unfolding_all rfl) (by with_unfolding_all rfl))))
  k_with "mine wpC" => (k_here; (with_reducible show wpC _ _ (execs (Stmt.Assign [Expr.Attribute _ _ _] (Expr.Call _ _ _ _) _ :: _) _) _ _ _); k_dflt (refine wpC_execs_cons (wpC_Assign_Attribute ?_ (by with_unfolding_all rfl))))
  k_with "mine wpC" => (k_here; (with_reducible show wpC _ _ (eval (Expr.Call (Expr.Attribute _ _ _) _ _ _) _) _ _ _); k_dflt (refine wpC_Call_Attr ?_ (by with_unfolding_all rfl)))
  k_with "mine wpC" => (k_here; (with_reducible show wpC _ _ (eval (Expr.Call (Expr.Name _ _) _ _ _) _) _ _ _); k_dflt (refine wpC_Call_Name ?_))
  k_with "mine wpC" => (k_here; (with_reducible show wpC _ _ (callWith _ (Value.builtin _) _ _ _) _ _ _); k_dflt (refine wpC_callWith_mach (by with_unfolding_all rfl) ?_ (by with_unfolding_all rfl) (by with_unfolding_all rfl)))
  k_with "mine wpC" => (k_here; (with_reducible show wpC _ _ (setItem (Value.ref _) (Value.ref _) (Value.bytes _ _)) _ _ _); k_dflt (refine' setslice_bytesK ?g ?F ?N ?U ?a ?b ?c ?d ?z ?_; (case g => exact rfl); (case F => k_asm); (case N => k_asm); (case U => k_upd); (case z => assumption); (case a => omega); (case b => omega); (case c => omega); (case d => first | exact partD (by assumption) (by assumption) (by assumption) | omega | (simp only [List.length_map, octI_length]; omega) | ((show ((fillU _ _).length : Int) = _); rw [fillU_length]; omega) | (rw [part_length (by omega)]; omega)); k_whole; intro h' F' N'))
  k_with "mine call type:bytes" => (k_here; (with_reducible show wpAny _ _ (call (Value.type "bytes") [Value.ref _]) _ _ _); k_dflt (refine' bytes_oneK ?hh ?F ?N ?m ?r ?_); (case hh => k_dflt (exact rfl)); (case F => k_asm); (case N => k_asm); (case m => k_mem); (case r => (rw [bitAnd_m8]; omega)); k_whole; intro h' t' k' F' N')
  k_with "mine binaryOp Mult bytes int" => (k_here; k_dflt (refine' bytes_mul_any ?b ?c ?d ?e ?_); (case b => exact List.cons_ne_nil _ _); (case c => omega); (case d => omega); (case e => exact Nat.le_of_ble_eq_true rfl); k_whole; intro t' k')
  k_with "mine binaryOp LShift int int" => (k_here; (refine' lshift_int_small ?a ?b ?c ?_); (case a => omega); (case b => omega); (case c => decide))
  k_with "mine call type:bytes" => (k_here; (with_reducible show wpAny _ _ (call (Value.type "bytes") [Value.int _ _]) _ _ _); (have zB := grow_bound (by assumption) (by omega) (by assumption) (by assumption) (by assumption)); k_dflt (refine' call_bytes_count ?a ?b ?_); (case a => exact zB.2.1); (case b => exact Int.le_trans zB.2.2 (by decide)); intro t' k')
  k_with "mine getMethod ref" => (k_here; k_dflt (refine' getMethod_extendK ?N ?m ?_); (case N => k_asm); (case m => k_mem))
  k_with "mine wpC" => (k_here; (with_reducible show wpC _ _ (call (Value.builtin "bytearray.extend") [Value.ref _, Value.bytes _ _]) _ _ _); k_dflt (refine' extend_bytesK ?g ?F ?N ?U ?z ?_; (case g => exact rfl); (case F => k_asm); (case N => k_asm); (case U => k_upd); (case z => (rw [List.length_replicate]; omega)); k_whole; intro h' F' N'))
  k_with "mine subscriptTail" => (k_here; (with_reducible show wpAny _ _ (subscriptTail _ _ (Value.bytes _ _) (Value.ref _)) _ _ _); k_dflt (refine' slice_bytesK ?F ?N ?z ?a ?b ?c ?_ ?d ?e); (case F => k_asm); (case N => k_asm); (case z => omega); (case a => omega); (case b => omega); (case c => omega); (case d => with_unfolding_all rfl); (case e => (intro _; with_unfolding_all rfl)); k_whole; intro h' t' k' F' N')
  k_with "mine call ref" => (k_here; k_dflt (show wpAny _ _ (call (Value.ref 70) [Value.int _ _, Value.int _ _]) _ _ _); k_dflt (refine' Calls.use (octets_of_calls _ _ _ _ _ ?z1 ?z2 _) ?B ?F ?X ?N ?T ?k ?d ?u ?_ ?_); (case B => k_asm); (case F => k_asm); (case X => k_asm); (case N => k_asm); (case T => k_asm); (case k => k_dflt (exact rfl)); (case d => ktr_room); (case u => ktr_units); (case z1 => omega); (case z2 => omega); all_goals k_whole; all_goals (first | (intro e C why dx H k tw h' tk' hX R U; exact hX.elim) | (intro r n' h' tk' hP F' N'; obtain ⟨⟨_, hr⟩, hn⟩ := hP; subst hr; subst hn)))
  k_with "mine call ref" => (k_here; k_dflt (show wpAny _ _ (call (Value.ref 84) [Value.int _ _, Value.int _ _, _, Value.int _ _]) _ _ _); k_dflt (refine' Calls.use (grown_calls _ _ _ _ _ _ _ _ (by assumption) _) ?B ?F ?X ?N ?T ?k ?d ?u ?_ ?_); (case B => k_asm); (case F => k_asm); (case X => k_asm); (case N => k_asm); (case T => k_asm); (case k => k_dflt (exact rfl)); (case d => ktr_room); (case u => ktr_units); all_goals k_whole; all_goals (first | (intro e C why dx H k tw h' tk' hX R U; exact hX.elim) | (intro r n' h' tk' hP F' N'; obtain ⟨hn, hP2⟩ := hP; subst hn; rcases hP2 with ⟨hr, hG⟩ | ⟨⟨_, hr⟩, hG⟩ <;> subst hr)))
  trivial
set_option maxRecDepth 100000 in
set_option maxHeartbeats 8000000 in
theorem init_calls (w : World) (M : Mem) (ok : M.Ok) (at' begin many : Int) (o : List UInt8) (hol : o.length ≤ 1000000) (ov : Value) (t1 t2 t3 : Tok) (own : List (Addr × Obj)) (hov : (ov = .none ∧ o = []) ∨ ∃ t, ov = .bytes o.toArray t) (ho : OwnOff own [M.b]) (hxb : @Ne Nat M.x M.b) (hdb : @Ne Nat M.dx M.b) :
    CallsC w 12 175 [.ref M.x, .int at' t1, ov, .int begin t2, .int many t3] (M.led own) (fun r n' => r = .none ∧ n' = ({ M with d := paste M.d at'.toNat (part o begin.toNat (begin + many - begin).toNat) } : Mem).led own ∧ 0 ≤ begin ∧ 0 ≤ many ∧ begin + many ≤ o.length ∧ 0 ≤ at' ∧ at' + many ≤ M.d.length)
      (fun C y => C = 44 ∧ y = OUT ∧ ¬ (0 ≤ begin ∧ 0 ≤ many ∧ begin + many ≤ o.length ∧ 0 ≤ at' ∧ at' + many ≤ M.d.length)) := by
  obtain ⟨x, dx, b, H1, H2, H3, H4, k1, k2, k3, k4, tp, tq, most, page, pages, d⟩ := M
  obtain ⟨p0, p1, sz, pg, mo⟩ := ok
  dsimp only at p0 p1 sz pg mo
  dsimp only at ho hxb hdb
  rcases hov with ⟨rfl, rfl⟩ | ⟨tv, rfl⟩
  all_goals
    unfold CallsC
    dsimp only [Mem.led]
    k_fill
    intro mean mg mb dp un cn cs a ccd cl outer A₀ base h₀ L m s Q E B F X N T hk hd hu hret hraise
    have hmo : handedIn most = true := by rcases mo with rfl | ⟨_, _, rfl⟩ <;> rfl
    have sz' : d.length ≤ 16777216 := by omega
    refine wpC_call ?_
    k_dflt (refine' codeC_def ?k1 ?k2 ?k3 ?k4 ?k5 ?kA ?kF ?kK ?k6 ?k7 ?k8 ?k9 ?kB ?_ ?c2 ?c3 ?c4 ?c5; (case kA => exact rfl); (case kF => exact rfl); (case kK => assumption); (case k1 => k_asm); (case k2 => k_asm); (case k3 => k_asm); (case k4 => k_asm); (case k5 => k_asm); (case k6 => k_is); (case k7 => k_is); (case k8 => ktr_room); (case k9 => exact BindsTo.of_eq rfl); (case c5 => decide); (case kB => exact locs rfl); (case c2 => exact rfl); (case c3 => exact rfl); (case c4 => exact rfl); k_whole; intro g' L' h' tk' FG' F' N' B' X' T'; (try dsimp only))
    k_steps
    all_goals first
      | exact hret _ _ _ _ ⟨rfl, rfl, by assumption, by assumption, by assumption, by assumption, by assumption⟩ (by assumption) (by assumption)
      | exact hraise _ _ _ _ _ _ _ _ _ ⟨rfl, rfl, fun z => by rename ¬ _ => nb; exact nb ⟨z.1, z.2.1, z.2.2.1⟩⟩ (by assumption) ⟨_, by assumption, by assumption⟩
      | exact hraise _ _ _ _ _ _ _ _ _ ⟨rfl, rfl, fun z => by rename ¬ _ => nb; exact nb ⟨z.2.2.2.1, z.2.1, z.2.2.2.2⟩⟩ (by assumption) ⟨_, by assumption, by assumption⟩
set_option maxRecDepth 100000 in
set_option maxHeartbeats 8000000 in
theorem grow_calls (w : World) (M : Mem) (ok : M.Ok) (more : Int) (t1 : Tok) (own : List (Addr × Obj)) (ho : OwnOff own [M.b]) (hxb : @Ne Nat M.x M.b) (hdb : @Ne Nat M.dx M.b) :
    CallsC w 12 119 [.ref M.x, .int more t1] (M.led own) (fun r n' => (GrowNot ((M.d.length : Int).fdiv M.page) more M.pages M.most ∧ (∃ t, r = .int 4294967295 t) ∧ n' = M.led own) ∨ (¬ GrowNot ((M.d.length : Int).fdiv M.page) more M.pages M.most ∧ (∃ t, r = .int ((M.d.length : Int).fdiv M.page) t) ∧ n' = ({ M with d := M.d ++ List.replicate (more * M.page).toNat 0 } : Mem).led own)) NoX := by
  obtain ⟨x, dx, b, H1, H2, H3, H4, k1, k2, k3, k4, tp, tq, most, page, pages, d⟩ := M
  obtain ⟨p0, p1, sz, pg, mo⟩ := ok
  dsimp only at p0 p1 sz pg mo
  dsimp only at ho hxb hdb
  unfold CallsC
  dsimp only [Mem.led]
  k_fill
  intro mean mg mb dp un cn cs a ccd cl outer A₀ base h₀ L m s Q E B F X N T hk hd hu hret hraise
  have hmo : handedIn most = true := by rcases mo with rfl | ⟨_, _, rfl⟩ <;> rfl
  have sz' : d.length ≤ 16777216 := by omega
  refine wpC_call ?_
  k_dflt (refine' codeC_def ?k1 ?k2 ?k3 ?k4 ?k5 ?kA ?kF ?kK ?k6 ?k7 ?k8 ?k9 ?kB ?_ ?c2 ?c3 ?c4 ?c5; (case kA => exact rfl); (case kF => exact rfl); (case kK => assumption); (case k1 => k_asm); (case k2 => k_asm); (case k3 => k_asm); (case k4 => k_asm); (case k5 => k_asm); (case k6 => k_is); (case k7 => k_is); (case k8 => ktr_room); (case k9 => exact BindsTo.of_eq rfl); (case c5 => decide); (case kB => exact locs rfl); (case c2 => exact rfl); (case c3 => exact rfl); (case c4 => exact rfl); k_whole; intro g' L' h' tk' FG' F' N' B' X' T'; (try dsimp only))
  k_steps
  all_goals first
    | exact hret _ _ _ _ (.inl ⟨by assumption, ⟨_, rfl⟩, rfl⟩) (by assumption) (by assumption)
    | exact hret _ _ _ _ (.inr ⟨by assumption, ⟨_, rfl⟩, rfl⟩) (by assumption) (by assumption)
end Mine
end
section
open PySem PySem.W PyProof.Rows
set_option Elab.async false
namespace Mine
theorem plain_Law1 : True := by
  w_top off
  k_with_none
  trivial
abbrev lstO (vs : List Value) (n : Nat) : Obj := { cls := .type "list", data := .seq vs.toArray n }
theorem off1_mem {D : Addr} {l : List (Addr × Obj)} (h : LCg.Off1 D l) : ∀ p ∈ l, @Ne Nat p.1 D := by
  induction l with
  | nil => intro p hp; cases hp
  | cons q r ih =>
    intro p hp
    rcases List.mem_cons.mp hp with e | hp
    · rw [e]; exact h.1
    · exact ih h.2 p hp
theorem skip3 {a b c d : Addr × Obj} {own : List (Addr × Obj)} : ∀ p ∈ a :: own, p ∈ a :: b :: c :: d :: own := by
  intro p hp
  rcases List.mem_cons.mp hp with e | hp
  · rw [e]; exact .head _
  · exact .tail _ (.tail _ (.tail _ (.tail _ hp)))
theorem skip6 {a b c d e f : Addr × Obj} {own : List (Addr × Obj)} : ∀ p ∈ own, p ∈ a :: b :: c :: d :: e :: f :: own := fun p hp => .tail _ (.tail _ (.tail _ (.tail _ (.tail _ (.tail _ hp)))))
theorem skip7 {a b c d e f g : Addr × Obj} {own : List (Addr × Obj)} : ∀ p ∈ own, p ∈ a :: b :: c :: d :: e :: f :: g :: own := fun p hp => .tail _ (skip6 p hp)
theorem skip9 {x a b c d e f g i : Addr × Obj} {own : List (Addr × Obj)} : ∀ p ∈ x :: own, p ∈ x :: a :: b :: c :: d :: e :: f :: g :: i :: own := by
  intro p hp
  rcases List.mem_cons.mp hp with e | hp
  · rw [e]; exact .head _
  · exact .tail _ (.tail _ (.tail _ (skip6 p hp)))
theorem neLe {a b : Nat} (h : a ≤ b) : a ≤ b := h
theorem fit63 {k : Int} (h : k ≤ 1000000) : k < 2 ^ 63 := Int.lt_of_le_of_lt h (by decide)
theorem rangeB {k : Int} {n : Nat} (h : k < 0 + ((((n : Int) - 0).toNat : Nat) : Int)) : k < n := by omega
theorem rangeFit {k : Int} {n : Nat} (h : k < 0 + ((((n : Int) - 0).toNat : Nat) : Int)) (hz : n ≤ 1000000) : k < 2 ^ 63 := fit63 (by omega)
theorem diffB {k to m : Int} {n : Nat} (h1 : k < to + m) (h2 : (n : Int) = m) : k - to < n := by omega
def InL (ns : List Int) (at' many : Int) : Prop := 0 ≤ at' ∧ 0 ≤ many ∧ at' + many ≤ ns.length
theorem diffFit {k to b m : Int} {ms : List Int} (h1 : k < to + m) (h2 : InL ms b m) (hz : ms.length ≤ 1000000) : k - to < 2 ^ 63 := by obtain ⟨_, _, _⟩ := h2; exact fit63 (by omega)
theorem news_dup {h₀ h : Heap} {L : Addr} {x : Addr × Obj} {own : List (Addr × Obj)} (N : News h₀ L h own) (hm : x ∈ own) : News h₀ L h (x :: own) := fun p hp => (List.mem_cons.mp hp).elim (fun e => e ▸ N x hm) (N p)
theorem inL_of {ns : List Int} {a m : Int} (h1 : ¬ a < 0) (h2 : ¬ m < 0) (h3 : ¬ (ns.length : Int) < a + m) : InL ns a m := ⟨by omega, by omega, by omega⟩
def partI (ns : List Int) (at' many : Int) : List Int := List.map (fun k' => ns.getD (at' + k').toNat 0) (rangeKs 0 (many - 0).toNat)
def movedI (ns ms : List Int) (to begin many : Int) : List Int := List.map (fun k' => if to ≤ k' ∧ k' < to + many then (partI ms begin many).getD (k' - to).toNat 0 else if to ≤ k' ∧ ¬ k' < to + many then ns.getD k'.toNat 0 else ns.getD k'.toNat 0) (rangeKs 0 ((ns.length : Int) - 0).toNat)
theorem powA {k n : Int} (h : k < 0 + (((n - 0).toNat : Nat) : Int)) (hz : n ≤ 1000) : k ≤ 1000000 := by omega
theorem powA' {k : Int} {n : Nat} (h : k < 0 + ((((n : Int) - 0).toNat : Nat) : Int)) (hz : n ≤ 1000) : k ≤ 1000000 := by omega
theorem powC {k n : Int} (h : k < 0 + (((n - 0).toNat : Nat) : Int)) (hz : 0 ≤ n ∧ n ≤ 1000) : k ≤ 1000000 := by omega
theorem powD {k : Int} (h : k < 0 + ((((9 : Int) - 0).toNat : Nat) : Int)) : k ≤ 1000000 := by omega
theorem partN {a k : Int} (h1 : ¬ a < 0) (h2 : 0 ≤ k) : 0 ≤ a + k := by omega
theorem partB {a k m : Int} {n : Nat} (h3 : k < 0 + (((m - 0).toNat : Nat) : Int)) (h1 : ¬ m < 0) (h2 : ¬ (n : Int) < a + m) : a + k < n := by omega
theorem partF {a k m : Int} {n : Nat} (h3 : k < 0 + (((m - 0).toNat : Nat) : Int)) (h1 : ¬ m < 0) (h2 : ¬ (n : Int) < a + m) (hz : n ≤ 1000000) : a + k < 2 ^ 63 := fit63 (by omega)
theorem partI_length {ns : List Int} {a m : Int} (h : InL ns a m) : ((partI ns a m).length : Int) = m := by
  obtain ⟨_, h1, _⟩ := h
  simp only [partI, List.length_map, rangeKs_length]
  omega
theorem lines_Law1_0 : True := by
  w_top off
  k_with_none
  k_with "mine subscriptTail Name BinOp ref int" => (k_here; (with_reducible show wpAny _ _ (subscriptTail _ _ (Value.ref _) (Value.int (_ + _) _)) _ _ _); (with_reducible refine' item_anyK ?k1 ?k2 ?k3 ?k4 ?k5 ?_ ?k6); (case k1 => k_dflt (exact News.isList (by k_asm) (by k_mem))); (case k2 => assumption); (case k3 => exact partN (by assumption) (by assumption)); (case k4 => exact partB (by assumption) (by assumption) (by assumption)); (case k5 => exact partF (by assumption) (by assumption) (by assumption) (by assumption)); (case k6 => with_unfolding_all rfl); k_whole; intro t')
  trivial
set_option maxRecDepth 100000 in
set_option maxHeartbeats 8000000 in
theorem part_calls (w : World) (r : Addr) (vs : List Value) (ns : List Int) (k : Nat) (at' many : Int) (t1 t2 : Tok) (hi : IntsAre vs ns) (hz : ns.length ≤ 1000000) (own : List (Addr × Obj)) :
    Calls w 8 230 [.ref r, .int at' t1, .int many t2] ((r, lstO vs k) :: own) (fun res n' => (¬ InL ns at' many ∧ res = .none ∧ n' = own) ∨ (InL ns at' many ∧ ∃ D ys ps, res = .ref D ∧ IntsAre ys ps ∧ ps = partI ns at' many ∧ (ps.length : Int) = many ∧ (∀ p ∈ own, @Ne Nat p.1 D) ∧ n' = (D, lstO ys ys.length) :: own)) NoX := by
  unfold Calls
  k_fill
  intro mean mg mb dp un gd cn cs a ccd cl outer A₀ base h₀ L m s Q E B F X N T hk hd hu hret hraise
  refine wpAny_call ?_
  k_dflt (refine' code_defC (binds := [(("row" : Str), Value.ref r), (("at" : Str), Value.int at' t1), (("many" : Str), Value.int many t2)]) ?k1 ?k2 ?k3 ?k4 ?k5 ?kA ?kF ?kK ?k6 ?k7 ?k8 ?k9 ?kB ?kD ?_ ?c2 ?c3 ?c4; (case kA => exact rfl); (case kF => exact rfl); (case kK => assumption); (case k1 => k_asm); (case k2 => k_asm); (case k3 => k_asm); (case k4 => k_asm); (case k5 => k_asm); (case k6 => k_is); (case k7 => k_is); (case k8 => ktr_room); (case k9 => exact BindsTo.of_eq rfl); (case kB => exact rfl); (case kD => decide +kernel); (case c2 => exact rfl); (case c3 => exact rfl); (case c4 => exact rfl); k_whole; intro g' L' h' tk' cells' FG' F' N' Y' B' X' T' l1; have l2 := l1; (try k_lt l2); k_cells Y'; (try simp only [List.cons_append, List.nil_append] at N'); (try dsimp only); (try k_fold))
  k_steps
  all_goals first
    | exact hret _ _ _ _ (.inl ⟨fun z => by obtain ⟨z1, z2, z3⟩ := z; omega, rfl, rfl⟩) (by assumption) (News.perm (by assumption) fun p hp => .tail _ (.tail _ (.tail _ hp)))
    | (rename _ ∧ _ ∧ _ ∧ LCg.Off1 _ _ => o1; exact hret _ _ _ _ (.inr ⟨inL_of (by assumption) (by assumption) (by assumption), _, _, _, rfl, by assumption, rfl, partI_length (inL_of (by assumption) (by assumption) (by assumption)), off1_mem o1.2.2.2, rfl⟩) (by assumption) (News.perm (by assumption) skip3))
theorem lines_Law1_1 : True := by
  k_with "mine k_all" => (rename ∀ p : Addr × Obj, p ∈ _ → p.1 < _ => lz; intro p hp; refine' Nat.ne_of_lt (Nat.lt_of_lt_of_le (lz p ?_) ?_); (first | exact hp | exact .tail _ hp | exact .tail _ (.tail _ hp) | exact .tail _ (.tail _ (.tail _ hp)) | exact .tail _ (.tail _ (.tail _ (.tail _ hp)))); (first | exact Nat.le_refl _ | (refine' neLe ?_; omega)))
  k_with "mine subscriptTail" => (k_here; (with_reducible show wpAny _ _ (subscriptTail _ _ (Value.ref _) (Value.int _ _)) _ _ _); (with_reducible refine' item_anyK ?k1 ?k2 ?k3 ?k4 ?k5 ?_ ?k6); (case k1 => k_dflt (exact News.isList (by k_asm) (by k_mem))); (case k2 => assumption); (case k3 => first | assumption | exact Int.sub_nonneg_of_le (by assumption)); (case k4 => first | exact rangeB (by assumption) | exact diffB (by assumption) (by assumption)); (case k5 => first | exact rangeFit (by assumption) (by assumption) | exact diffFit (by assumption) (by assumption) (by assumption)); (case k6 => with_unfolding_all rfl); k_whole; intro t')
  k_with "mine subscriptTail Name BinOp ref int" => (k_here; (with_reducible show wpAny _ _ (subscriptTail _ _ (Value.ref _) (Value.int _ _)) _ _ _); (with_reducible refine' item_anyK ?k1 ?k2 ?k3 ?k4 ?k5 ?_ ?k6); (case k1 => k_dflt (exact News.isList (by k_asm) (by k_mem))); (case k2 => assumption); (case k3 => first | assumption | exact Int.sub_nonneg_of_le (by assumption)); (case k4 => first | exact rangeB (by assumption) | exact diffB (by assumption) (by assumption)); (case k5 => first | exact rangeFit (by assumption) (by assumption) | exact diffFit (by assumption) (by assumption) (by assumption)); (case k6 => with_unfolding_all rfl); k_whole; intro t')
  k_with "mine subscriptTail Name Name ref int" => (k_here; (with_reducible show wpAny _ _ (subscriptTail _ _ (Value.ref _) (Value.int _ _)) _ _ _); (with_reducible refine' item_anyK ?k1 ?k2 ?k3 ?k4 ?k5 ?_ ?k6); (case k1 => k_dflt (exact News.isList (by k_asm) (by k_mem))); (case k2 => assumption); (case k3 => first | assumption | exact Int.sub_nonneg_of_le (by assumption)); (case k4 => first | exact rangeB (by assumption) | exact diffB (by assumption) (by assumption)); (case k5 => first | exact rangeFit (by assumption) (by assumption) | exact diffFit (by assumption) (by assumption) (by assumption)); (case k6 => with_unfolding_all rfl); k_whole; intro t')
  k_with "mine call ref" => (k_here; k_dflt (show wpAny _ _ (call (Value.ref 230) [Value.ref _, Value.int _ _, Value.int _ _]) _ _ _); k_dflt (refine' Calls.use (part_calls _ _ _ _ _ _ _ _ _ ?z1 ?z2 _) ?B ?F ?X ?N ?T ?k ?d ?u ?_ ?_); (case B => k_asm); (case F => k_asm); (case X => k_asm); (case N => exact news_dup (by k_asm) (by k_mem)); (case T => k_asm); (case k => k_dflt (exact rfl)); (case d => ktr_room); (case u => ktr_units); (case z1 => assumption); (case z2 => assumption); all_goals k_whole; all_goals (first | (intro e C why dx H k tw h' tk' hX R U; exact hX.elim) | (intro r n' h' tk' hP F' N'; rcases hP with ⟨hG, hr, hn⟩ | ⟨hG, D, ys, ps, hr, hI, hps, hpl, off, hn⟩ <;> subst hr <;> subst hn <;> (try simp only [List.forall_mem_cons] at off))))
  trivial
set_option maxRecDepth 100000 in
set_option maxHeartbeats 8000000 in
theorem moved_calls (w : World) (r q : Addr) (vs us : List Value) (ns ms : List Int) (k j : Nat) (to begin many : Int) (t1 t2 t3 : Tok) (hi : IntsAre vs ns) (hj : IntsAre us ms) (hz : ns.length ≤ 1000000) (hz2 : ms.length ≤ 1000000) (own : List (Addr × Obj)) :
    Calls w 12 235 [.ref r, .int to t1, .ref q, .int begin t2, .int many t3] ((r, lstO vs k) :: (q, lstO us j) :: own) (fun res n' => (¬ (InL ms begin many ∧ InL ns to many) ∧ res = .none ∧ n' = own) ∨ (InL ms begin many ∧ InL ns to many ∧ ∃ D ys ps, res = .ref D ∧ IntsAre ys ps ∧ ps = movedI ns ms to begin many ∧ (∀ p ∈ own, @Ne Nat p.1 D) ∧ n' = (D, lstO ys ys.length) :: own)) NoX := by
  unfold Calls
  k_fill
  intro mean mg mb dp un gd cn cs a ccd cl outer A₀ base h₀ L m s Q E B F X N T hk hd hu hret hraise
  refine wpAny_call ?_
  k_dflt (refine' code_defC (binds := [(("row" : Str), Value.ref r), (("to" : Str), Value.int to t1), (("source" : Str), Value.ref q), (("begin" : Str), Value.int begin t2), (("many" : Str), Value.int many t3)]) ?k1 ?k2 ?k3 ?k4 ?k5 ?kA ?kF ?kK ?k6 ?k7 ?k8 ?k9 ?kB ?kD ?_ ?c2 ?c3 ?c4; (case kA => exact rfl); (case kF => exact rfl); (case kK => assumption); (case k1 => k_asm); (case k2 => k_asm); (case k3 => k_asm); (case k4 => k_asm); (case k5 => k_asm); (case k6 => k_is); (case k7 => k_is); (case k8 => ktr_room); (case k9 => exact BindsTo.of_eq rfl); (case kB => exact rfl); (case kD => decide +kernel); (case c2 => exact rfl); (case c3 => exact rfl); (case c4 => exact rfl); k_whole; intro g' L' h' tk' cells' FG' F' N' Y' B' X' T' l1; have l2 := l1; (try k_lt l2); k_cells Y'; (try simp only [List.cons_append, List.nil_append] at N'); (try dsimp only); (try k_fold))
  k_steps
  · exact hret _ _ _ _ (.inl ⟨fun z => by rename ¬ InL ms begin many => nG; exact nG z.1, rfl, rfl⟩) (by assumption) (News.perm (by assumption) skip6)
  · exact hret _ _ _ _ (.inl ⟨fun z => by rename ¬ InL ns to many => nG; exact nG z.2, rfl, rfl⟩) (by assumption) (News.perm (by assumption) skip7)
  · rename _ ∧ _ ∧ _ ∧ _ ∧ _ ∧ _ ∧ _ ∧ _ ∧ LCg.Off1 _ _ => o1
    rename _ = partI ms begin many => e1
    subst e1
    exact hret _ _ _ _ (.inr ⟨by assumption, by assumption, _, _, _, rfl, by assumption, rfl, off1_mem o1.2.2.2.2.2.2.2.2, rfl⟩) (by assumption) (News.perm (by assumption) skip9)
end Mine
end
section
open PySem PySem.W PyProof.Rows
set_option Elab.async false
namespace Mine
theorem plain_Law2 : True := by
  w_top off
  k_with_none
  trivial
def operand (d sh mn : Int) : Int := if d % 8 = 7 then d / 8 else (d / 8 + sh) % mn
def sourceI (op number many : Int) (row other sg : List Int) : List Int :=
  if op = 0 then List.map (fun k' => Int.fmod (Int.fdiv number (256 ^ Int.toNat k') + k' + 1) 256) (rangeKs 0 (many - 0).toNat)
  else if op = 1 then row
  else if op = 2 then (List.replicate ((row.length : Int)).toNat [Int.fmod number 256]).flatten
  else if op = 3 then List.map (fun k' => Int.fmod (Int.fdiv number (256 ^ Int.toNat k')) 256) (rangeKs 0 ((row.length : Int) - 0).toNat)
  else if op = 6 then sg else if op = 8 then other else []
section
variable {op number many : Int} {row other sg : List Int}
theorem src0 (h : op = 0) : sourceI op number many row other sg = List.map (fun k' => Int.fmod (Int.fdiv number (256 ^ Int.toNat k') + k' + 1) 256) (rangeKs 0 (many - 0).toNat) := by subst h; rfl
theorem src1 (h : op = 1) : sourceI op number many row other sg = row := by subst h; rfl
theorem src2 (h : op = 2) : sourceI op number many row other sg = (List.replicate ((row.length : Int)).toNat [Int.fmod number 256]).flatten := by subst h; rfl
theorem src3 (h : op = 3) : sourceI op number many row other sg = List.map (fun k' => Int.fmod (Int.fdiv number (256 ^ Int.toNat k')) 256) (rangeKs 0 ((row.length : Int) - 0).toNat) := by subst h; rfl
theorem src6 (h : op = 6) : sourceI op number many row other sg = sg := by subst h; rfl
theorem src8 (h : op = 8) : sourceI op number many row other sg = other := by subst h; rfl
theorem src9 (h0 : op ≠ 0) (h1 : op ≠ 1) (h2 : op ≠ 2) (h3 : op ≠ 3) (h6 : op ≠ 6) (h8 : op ≠ 8) : sourceI op number many row other sg = [] := by
  unfold sourceI
  rw [if_neg h0, if_neg h1, if_neg h2, if_neg h3, if_neg h6, if_neg h8]
end
theorem lift4 {x a r q z : Addr × Obj} {own : List (Addr × Obj)} : ∀ p ∈ x :: own, p ∈ x :: a :: r :: q :: z :: own := by
  intro p hp
  rcases List.mem_cons.mp hp with e | hp
  · rw [e]; exact .head _
  · exact .tail _ (.tail _ (.tail _ (.tail _ (.tail _ hp))))
theorem lift5 {x b a r q z : Addr × Obj} {own : List (Addr × Obj)} : ∀ p ∈ x :: own, p ∈ x :: b :: a :: r :: q :: z :: own := by
  intro p hp
  rcases List.mem_cons.mp hp with e | hp
  · rw [e]; exact .head _
  · exact .tail _ (.tail _ (.tail _ (.tail _ (.tail _ (.tail _ hp)))))
theorem liftr {a r q z : Addr × Obj} {own : List (Addr × Obj)} : ∀ p ∈ r :: own, p ∈ a :: r :: q :: z :: own := by
  intro p hp
  rcases List.mem_cons.mp hp with e | hp
  · rw [e]; exact .tail _ (.head _)
  · exact .tail _ (.tail _ (.tail _ (.tail _ hp)))
theorem liftq {a r q z : Addr × Obj} {own : List (Addr × Obj)} : ∀ p ∈ q :: own, p ∈ a :: r :: q :: z :: own := by
  intro p hp
  rcases List.mem_cons.mp hp with e | hp
  · rw [e]; exact .tail _ (.tail _ (.head _))
  · exact .tail _ (.tail _ (.tail _ (.tail _ hp)))
theorem liftz {a r q z : Addr × Obj} {own : List (Addr × Obj)} : ∀ p ∈ z :: own, p ∈ a :: r :: q :: z :: own := by
  intro p hp
  rcases List.mem_cons.mp hp with e | hp
  · rw [e]; exact .tail _ (.tail _ (.tail _ (.head _)))
  · exact .tail _ (.tail _ (.tail _ (.tail _ hp)))
theorem pow256_ne (k : Nat) : (256 : Int) ^ k ≠ 0 := Int.ne_of_gt (Int.pow_pos (by decide))
theorem log256 {k : Nat} (h : k ≤ 1000) : ((256 : Int) ^ k).natAbs.log2 < 9000 := by
  have e : ((256 : Int) ^ k).natAbs = 2 ^ (8 * k) := by
    rw [Int.natAbs_pow, Nat.pow_mul]
    rfl
  rw [e, Nat.log2_two_pow]
  omega
theorem rangeN {k n : Int} (h : k < 0 + (((n - 0).toNat : Nat) : Int)) (hz : n ≤ 1000) : k.toNat ≤ 1000 := by omega
theorem rangeN' {k : Int} {n : Nat} (h : k < 0 + ((((n : Int) - 0).toNat : Nat) : Int)) (hz : n ≤ 1000) : k.toNat ≤ 1000 := by omega
theorem lines_Law2_0 : True := by
  w_top off
  k_with_none
  k_with "mine binaryOp FloorDiv int int" => (k_here; (with_reducible refine' floordiv_int ?a ?_ (Or.inl (PyProof.noPylong_of_log2 ?b))); (case a => exact pow256_ne _); (case b => first | exact log256 (rangeN (by assumption) (by assumption)) | exact log256 (rangeN' (by assumption) (by assumption))))
  k_with "mine binaryOp Pow int int" => (k_here; (with_reducible refine' pow_int_small ?kb1 ?kb2 ?kb3 ?_); (case kb1 => assumption); (case kb2 => first | exact powD (by assumption) | exact powA (by assumption) (by assumption) | exact powA' (by assumption) (by assumption) | exact powC (by assumption) (by assumption)); (case kb3 => decide))
  k_with "mine compareOp Is" => (k_here; (rename ((_ = Value.none ∧ _) ∨ _) => hsv); rcases hsv with hsv | hsv <;> obtain ⟨hsv, hsg⟩ := hsv <;> subst hsv)
  k_with "mine exec Return some" => (k_here; (with_reducible show wpAny _ _ (exec (Stmt.Return (some (Expr.ListComp _ _ _ _)) _) _) _ _ _); (rename (_ : Int) = 0 → _ ∧ _ => hq); have hb := hq (by assumption); clear hq; obtain ⟨hb0, hb1⟩ := hb)
  trivial
set_option maxRecDepth 100000 in
set_option maxHeartbeats 8000000 in
theorem source_calls (w : World) (r q : Addr) (vs us ss : List Value) (ns ms ls : List Int) (k j i : Nat) (op number many : Int) (sv : Value) (t1 t2 t3 : Tok) (hi : IntsAre vs ns) (hj : IntsAre us ms) (hs : IntsAre ss ls) (hz : ns.length ≤ 1000) (hm : op = 0 → 0 ≤ many ∧ many ≤ 1000) (own : List (Addr × Obj)) (z : Addr) (sg : List Int) (hsv : (sv = .none ∧ sg = []) ∨ (sv = .ref z ∧ sg = ls)) :
    Calls w 8 252 [.int op t1, .int number t2, .int many t3, .ref r, .ref q, sv] ((r, lstO vs k) :: (q, lstO us j) :: (z, lstO ss i) :: own) (fun res n' => ∃ D ys ps n, res = .ref D ∧ IntsAre ys ps ∧ ps = sourceI op number many ns ms sg ∧ n' = (D, lstO ys n) :: own) NoX := by
  unfold Calls
  k_fill
  intro mean mg mb dp un gd cn cs a ccd cl outer A₀ base h₀ L m s Q E B F X N T hk hd hu hret hraise
  refine wpAny_call ?_
  k_dflt (refine' code_defC (binds := [(("op" : Str), Value.int op t1), (("number" : Str), Value.int number t2), (("many" : Str), Value.int many t3), (("row" : Str), Value.ref r), (("other" : Str), Value.ref q), (("segment" : Str), sv)]) ?k1 ?k2 ?k3 ?k4 ?k5 ?kA ?kF ?kK ?k6 ?k7 ?k8 ?k9 ?kB ?kD ?_ ?c2 ?c3 ?c4; (case kA => exact rfl); (case kF => exact rfl); (case kK => assumption); (case k1 => k_asm); (case k2 => k_asm); (case k3 => k_asm); (case k4 => k_asm); (case k5 => k_asm); (case k6 => k_is); (case k7 => k_is); (case k8 => ktr_room); (case k9 => exact BindsTo.of_eq rfl); (case kB => exact rfl); (case kD => decide +kernel); (case c2 => exact rfl); (case c3 => exact rfl); (case c4 => exact rfl); k_whole; intro g' L' h' tk' cells' FG' F' N' Y' B' X' T' l1; have l2 := l1; (try k_lt l2); k_cells Y'; (try simp only [List.cons_append, List.nil_append] at N'); (try dsimp only); (try k_fold))
  k_steps
  · exact hret _ _ _ _ ⟨_, _, _, _, rfl, by assumption, (src0 (by assumption)).symm, rfl⟩ (by assumption) (News.perm (by assumption) lift4)
  · exact hret _ _ _ _ ⟨_, _, _, _, rfl, hi, (src1 (by assumption)).symm, rfl⟩ (by assumption) (News.perm (by assumption) liftr)
  · exact hret _ _ _ _ ⟨_, _, _, _, rfl, by assumption, (src2 (by assumption)).symm, rfl⟩ (by assumption) (News.perm (by assumption) lift5)
  · exact hret _ _ _ _ ⟨_, _, _, _, rfl, by assumption, (src3 (by assumption)).symm, rfl⟩ (by assumption) (News.perm (by assumption) lift4)
  · exact hret _ _ _ _ ⟨_, _, _, _, rfl, IntsAre.nil, ((src6 (by assumption)).trans (by assumption)).symm, rfl⟩ (by assumption) (News.perm (by assumption) lift4)
  · exact hret _ _ _ _ ⟨_, _, _, _, rfl, hs, ((src6 (by assumption)).trans (by assumption)).symm, rfl⟩ (by assumption) (News.perm (by assumption) liftz)
  · exact hret _ _ _ _ ⟨_, _, _, _, rfl, hj, (src8 (by assumption)).symm, rfl⟩ (by assumption) (News.perm (by assumption) liftq)
  · exact hret _ _ _ _ ⟨_, _, _, _, rfl, IntsAre.nil, (src9 (by assumption) (by assumption) (by assumption) (by assumption) (by assumption) (by assumption)).symm, rfl⟩ (by assumption) (News.perm (by assumption) lift4)
end Mine
end
section
open PySem PySem.W PyProof.Rows
set_option Elab.async false
namespace Mine
theorem plain_Law3 : True := by
  w_top off
  k_with_none
  trivial
def OctL (l : List Int) : Prop := ∀ n ∈ l, 0 ≤ n ∧ n < 256
inductive Ans where
  | trap
  | non
  | num (n : Int)
  | byt (d : List UInt8)
def Ans.word : Ans → Str
  | .trap => OUT
  | _ => ""
def Ans.is : Ans → Value → Prop
  | .num n, v => ∃ t, v = .int n t
  | .byt d, v => ∃ t, v = .bytes d.toArray t
  | _, v => v = .none
def sumI (l : List Int) (many : Int) : Int := (List.map (fun k' => l.getD k'.toNat 0 * 256 ^ k'.toNat) (rangeKs 0 (many - 0).toNat)).sum
open Classical in
noncomputable def dueI (op : Int) (row source : List Int) (to begin many limit page : Int) : Ans × List Int :=
  if op = 7 then (if many < 0 ∨ limit < Int.fdiv row.length page + many then (.num 4294967295, row) else (.num (Int.fdiv row.length page), row ++ (List.replicate (Int.toNat (many * page)) [(0 : Int)]).flatten))
  else if op = 4 then (if InL row to many then (.num (sumI (partI row to many) many), row) else (.trap, row))
  else if op = 5 then (if InL row to many then (.byt (toU (partI row to many)), row) else (.trap, row))
  else if InL source begin many ∧ InL row to many then (.non, movedI row source to begin many) else (.trap, row)
def DueR (op : Int) (ns ms : List Int) (to begin many limit page : Int) (own : List (Addr × Obj)) (res : Value) (n' : List (Addr × Obj)) : Prop :=
  ∃ O I D ys n ts v, res = .ref O ∧ IntsAre ys (dueI op ns ms to begin many limit page).2 ∧ (dueI op ns ms to begin many limit page).1.is v ∧
    n' = (O, tupO [.ref I, .ref D]) :: (I, tupO [.str (dueI op ns ms to begin many limit page).1.word ts, v]) :: (D, lstO ys n) :: own
theorem octG {l : List Int} (h : OctL l) (i : Nat) : 0 ≤ l.getD i 0 ∧ l.getD i 0 < 256 := by
  rw [List.getD_eq_getElem?_getD]
  cases e : l[i]? with
  | none => simp
  | some a => exact h a (List.mem_of_getElem? e)
theorem octMul {l : List Int} {i : Nat} {b : Int} (h : OctL l) : PySem.IntMulOk (l.getD i 0) b := PySem.IntMulOk.of_left (PySem.intBits_le_64 (Int.lt_of_lt_of_le (by decide) (octG h i).1) (Int.lt_trans (octG h i).2 (by decide)))
theorem octP {ns ps : List Int} {a m : Int} (h : ps = partI ns a m) (ho : OctL ns) : OctL ps := by
  subst h
  intro n hn
  obtain ⟨k, _, rfl⟩ := List.mem_map.mp hn
  exact octG ho _
theorem lines_Law3_0 : True := by
  w_top off
  k_with_none
  k_with "mine binaryOp Mult int int" => (k_here; (with_reducible show wpAny _ _ (binaryOp Operator.Mult (Value.int (List.getD _ _ _) _) (Value.int _ _)) _ _ _); (with_reducible refine' mul_int ?_ (octMul (by assumption))))
  trivial
theorem inLb {ns : List Int} {a m : Int} (h : InL ns a m) (hz : ns.length ≤ 1000) : 0 ≤ m ∧ m ≤ 1000 := by obtain ⟨_, _, _⟩ := h; omega
theorem rangeP {k m : Int} {n : Nat} (h : k < 0 + (((m - 0).toNat : Nat) : Int)) (h0 : 0 ≤ k) (h2 : (n : Int) = m) : k < n := by omega
theorem rangePF {k m : Int} (h : k < 0 + (((m - 0).toNat : Nat) : Int)) (h2 : 0 ≤ m ∧ m ≤ 1000) : k < 2 ^ 63 := fit63 (by omega)
theorem dueB {n : Nat} {page many limit : Int} (h1 : ¬ limit < Int.fdiv (n : Int) page + many) (h2 : ¬ many < 0) (h3 : 0 < page) (h4 : page < 1000) (h5 : limit ≤ 1000) : 0 ≤ many * page ∧ many * page ≤ 1000000 := by
  have h6 : 0 ≤ Int.fdiv (n : Int) page := Int.fdiv_nonneg (by omega) (by omega)
  refine ⟨Int.mul_nonneg (by omega) (by omega), ?_⟩
  calc many * page ≤ 1000 * page := Int.mul_le_mul_of_nonneg_right (by omega) (by omega)
    _ ≤ 1000000 := by omega
theorem lines_Law3_1 : True := by
  k_with "mine binaryOp Pow int int" => (k_here; (with_reducible refine' pow_int_small ?kb1 ?kb2 ?kb3 ?_); (case kb1 => assumption); (case kb2 => first | exact powD (by assumption) | exact powA (by assumption) (by assumption) | exact powA' (by assumption) (by assumption) | exact powC (by assumption) (by assumption)); (case kb3 => decide))
  k_with "mine binaryOp Mult ref int" => (k_here; (with_reducible show wpAny _ _ (binaryOp Operator.Mult (Value.ref _) (Value.int (_ * _) _)) _ _ _); (have zB := dueB (by assumption) (by assumption) (by assumption) (by assumption) (by assumption)); km_mul KM.mul)
  k_with "mine k_all" => (rename ∀ p : Addr × Obj, p ∈ _ → p.1 < _ => lz; intro p hp; refine' Nat.ne_of_lt (Nat.lt_of_lt_of_le (lz p ?_) ?_); (first | exact hp | exact .tail _ hp | exact .tail _ (.tail _ hp) | exact .tail _ (.tail _ (.tail _ hp)) | exact .tail _ (.tail _ (.tail _ (.tail _ hp)))); (first | exact Nat.le_refl _ | (refine' neLe ?_; omega)))
  k_with "mine subscriptTail" => (k_here; (with_reducible show wpAny _ _ (subscriptTail _ _ (Value.ref _) (Value.int _ _)) _ _ _); (with_reducible refine' item_anyK ?k1 ?k2 ?k3 ?k4 ?k5 ?_ ?k6); (case k1 => k_dflt (exact News.isList (by k_asm) (by k_mem))); (case k2 => assumption); (case k3 => first | assumption | exact Int.sub_nonneg_of_le (by assumption)); (case k4 => first | exact rangeP (by assumption) (by assumption) (by assumption) | exact rangeB (by assumption) | exact diffB (by assumption) (by assumption)); (case k5 => first | exact rangePF (by assumption) (by assumption)  | exact rangeFit (by assumption) (by assumption) | exact diffFit (by assumption) (by assumption) (by assumption)); (case k6 => with_unfolding_all rfl); k_whole; intro t')
  k_with "mine subscriptTail Name BinOp ref int" => (k_here; (with_reducible show wpAny _ _ (subscriptTail _ _ (Value.ref _) (Value.int _ _)) _ _ _); (with_reducible refine' item_anyK ?k1 ?k2 ?k3 ?k4 ?k5 ?_ ?k6); (case k1 => k_dflt (exact News.isList (by k_asm) (by k_mem))); (case k2 => assumption); (case k3 => first | assumption | exact Int.sub_nonneg_of_le (by assumption)); (case k4 => first | exact rangeP (by assumption) (by assumption) (by assumption) | exact rangeB (by assumption) | exact diffB (by assumption) (by assumption)); (case k5 => first | exact rangePF (by assumption) (by assumption)  | exact rangeFit (by assumption) (by assumption) | exact diffFit (by assumption) (by assumption) (by assumption)); (case k6 => with_unfolding_all rfl); k_whole; intro t')
  k_with "mine subscriptTail Name Name ref int" => (k_here; (with_reducible show wpAny _ _ (subscriptTail _ _ (Value.ref _) (Value.int _ _)) _ _ _); (with_reducible refine' item_anyK ?k1 ?k2 ?k3 ?k4 ?k5 ?_ ?k6); (case k1 => k_dflt (exact News.isList (by k_asm) (by k_mem))); (case k2 => assumption); (case k3 => first | assumption | exact Int.sub_nonneg_of_le (by assumption)); (case k4 => first | exact rangeP (by assumption) (by assumption) (by assumption) | exact rangeB (by assumption) | exact diffB (by assumption) (by assumption)); (case k5 => first | exact rangePF (by assumption) (by assumption)  | exact rangeFit (by assumption) (by assumption) | exact diffFit (by assumption) (by assumption) (by assumption)); (case k6 => with_unfolding_all rfl); k_whole; intro t')
  k_with "mine call ref" => (k_here; k_dflt (show wpAny _ _ (call (Value.ref 230) [Value.ref _, Value.int _ _, Value.int _ _]) _ _ _); k_dflt (refine' Calls.use (part_calls _ _ _ _ _ _ _ _ _ ?z1 ?z2 _) ?B ?F ?X ?N ?T ?k ?d ?u ?_ ?_); (case B => k_asm); (case F => k_asm); (case X => k_asm); (case N => exact news_dup (by k_asm) (by k_mem)); (case T => k_asm); (case k => k_dflt (exact rfl)); (case d => ktr_room); (case u => ktr_units); (case z1 => assumption); (case z2 => first | assumption | exact Nat.le_trans (by assumption) (by decide : 1000 ≤ 1000000)); all_goals k_whole; all_goals (first | (intro e C why dx H k tw h' tk' hX R U; exact hX.elim) | (intro r n' h' tk' hP F' N'; rcases hP with ⟨hG, hr, hn⟩ | ⟨hG, D, ys, ps, hr, hI, hps, hpl, off, hn⟩ <;> subst hr <;> subst hn <;> (try simp only [List.forall_mem_cons] at off) <;> (try have hGb := inLb hG (by assumption)) <;> (try have hOc := octP hps (by assumption)))))
  k_with "mine call ref" => (k_here; k_dflt (show wpAny _ _ (call (Value.ref 235) [Value.ref _, Value.int _ _, Value.ref _, Value.int _ _, Value.int _ _]) _ _ _); k_dflt (refine' Calls.use (moved_calls _ _ _ _ _ _ _ _ _ _ _ _ _ _ _ ?z1 ?z2 ?z3 ?z4 _) ?B ?F ?X ?N ?T ?k ?d ?u ?_ ?_); (case B => k_asm); (case F => k_asm); (case X => k_asm); (case N => exact news_dup (news_dup (by k_asm) (by k_mem)) (by k_mem)); (case T => k_asm); (case k => k_dflt (exact rfl)); (case d => ktr_room); (case u => ktr_units); (case z1 => assumption); (case z2 => assumption); (case z3 => exact Nat.le_trans (by assumption) (by decide : 1000 ≤ 1000000)); (case z4 => exact Nat.le_trans (by assumption) (by decide : 1000 ≤ 1000000)); all_goals k_whole; all_goals (first | (intro e C why dx H k tw h' tk' hX R U; exact hX.elim) | (intro r n' h' tk' hP F' N'; rcases hP with ⟨hG, hr, hn⟩ | ⟨hG, hG2, D, ys, ps, hr, hI, hps, off, hn⟩ <;> subst hr <;> subst hn)))
  trivial
theorem mem3 {x y z : Addr × Obj} {l own : List (Addr × Obj)} (hx : x ∈ l) (hy : y ∈ l) (hz : z ∈ l) (ho : ∀ p ∈ own, p ∈ l) : ∀ p ∈ x :: y :: z :: own, p ∈ l := by
  intro p hp
  rcases List.mem_cons.mp hp with e | hp
  · exact e ▸ hx
  rcases List.mem_cons.mp hp with e | hp
  · exact e ▸ hy
  rcases List.mem_cons.mp hp with e | hp
  · exact e ▸ hz
  · exact ho p hp
section
variable {op to begin many limit page : Int} {ns ms ps l : List Int} {own n' : List (Addr × Obj)} {O I D : Addr} {ys : List Value} {n : Nat} {ts : Tok} {v : Value} {a : Ans}
theorem dueR_mk (e : dueI op ns ms to begin many limit page = (a, l)) (hi : IntsAre ys l) (hv : a.is v) (hn : n' = (O, tupO [.ref I, .ref D]) :: (I, tupO [.str a.word ts, v]) :: (D, lstO ys n) :: own) : DueR op ns ms to begin many limit page own (.ref O) n' := by
  refine ⟨O, I, D, ys, n, ts, v, rfl, ?_, ?_, ?_⟩ <;> rw [e]
  · exact hi
  · exact hv
  · exact hn
theorem due7r (h : many < 0 ∨ limit < Int.fdiv ns.length page + many) : dueI 7 ns ms to begin many limit page = (.num 4294967295, ns) := by unfold dueI; rw [if_pos rfl, if_pos h]
theorem due7k (h1 : ¬ many < 0) (h2 : ¬ limit < Int.fdiv ns.length page + many) : dueI 7 ns ms to begin many limit page = (.num (Int.fdiv ns.length page), ns ++ (List.replicate (Int.toNat (many * page)) [(0 : Int)]).flatten) := by
  unfold dueI; rw [if_pos rfl, if_neg (fun z => z.elim h1 h2)]
theorem due4t (h : ¬ InL ns to many) : dueI 4 ns ms to begin many limit page = (.trap, ns) := by unfold dueI; rw [if_neg (by decide), if_pos rfl, if_neg h]
theorem due4k (h : InL ns to many) (e : ps = partI ns to many) : dueI 4 ns ms to begin many limit page = (.num (List.map (fun k' => ps.getD k'.toNat 0 * 256 ^ k'.toNat) (rangeKs 0 (many - 0).toNat)).sum, ns) := by subst e; unfold dueI; rw [if_neg (by decide), if_pos rfl, if_pos h]; rfl
theorem due5t (h : ¬ InL ns to many) : dueI 5 ns ms to begin many limit page = (.trap, ns) := by unfold dueI; rw [if_neg (by decide), if_neg (by decide), if_pos rfl, if_neg h]
theorem due5k (h : InL ns to many) (e : ps = partI ns to many) : dueI 5 ns ms to begin many limit page = (.byt (toU ps), ns) := by subst e; unfold dueI; rw [if_neg (by decide), if_neg (by decide), if_pos rfl, if_pos h]
theorem dueMt (h4 : op ≠ 4) (h5 : op ≠ 5) (h7 : op ≠ 7) (h : ¬ (InL ms begin many ∧ InL ns to many)) : dueI op ns ms to begin many limit page = (.trap, ns) := by unfold dueI; rw [if_neg h7, if_neg h4, if_neg h5, if_neg h]
theorem dueMk (h4 : op ≠ 4) (h5 : op ≠ 5) (h7 : op ≠ 7) (h : InL ms begin many) (h' : InL ns to many) (e : l = movedI ns ms to begin many) : dueI op ns ms to begin many limit page = (.non, l) := by subst e; unfold dueI; rw [if_neg h7, if_neg h4, if_neg h5, if_pos ⟨h, h'⟩]
end
theorem octOf {l : List Int} (h : OctL l) : ∀ n ∈ l, 0 ≤ n ∧ n < 256 := h
theorem lenB {l : List Int} {m : Int} (h : (l.length : Int) = m) (h2 : 0 ≤ m ∧ m ≤ 1000) : l.length ≤ 16777216 := by omega
theorem lines_Law3_2 : True := by
  k_with "mine call type:bytes" => (k_here; (with_reducible show wpAny _ _ (call (Value.type "bytes") [Value.ref _]) _ _ _); k_dflt (refine' bytes_intsK ?hh ?F ?N ?m ?i ?r ?z ?_); (case hh => k_dflt (exact rfl)); (case F => k_asm); (case N => k_asm); (case m => k_mem); (case i => assumption); (case r => exact octOf (by assumption)); (case z => exact lenB (by assumption) (by assumption)); k_whole; intro h' t' k' F' N')
  trivial
set_option maxRecDepth 100000 in
set_option maxHeartbeats 8000000 in
theorem due7_calls (w : World) (r q : Addr) (vs us : List Value) (ns ms : List Int) (k j : Nat) (to begin many limit page : Int) (t1 t2 t3 t4 t5 t6 : Tok) (hi : IntsAre vs ns) (hj : IntsAre us ms) (hz : ns.length ≤ 1000) (hz2 : ms.length ≤ 1000) (hoct : OctL ns) (hp0 : 0 < page) (hp1 : page < 1000) (hlm : limit ≤ 1000) (own : List (Addr × Obj)) :
    Calls w 16 240 [.int 7 t1, .ref r, .int to t2, .ref q, .int begin t3, .int many t4, .int limit t5, .int page t6] ((r, lstO vs k) :: (q, lstO us j) :: own) (fun res n' => DueR 7 ns ms to begin many limit page own res n') NoX := by
  unfold Calls
  k_fill
  intro mean mg mb dp un gd cn cs a ccd cl outer A₀ base h₀ L m s Q E B F X N T hk hd hu hret hraise
  refine wpAny_call ?_
  k_dflt (refine' code_defC (binds := [(("op" : Str), Value.int 7 t1), (("row" : Str), Value.ref r), (("to" : Str), Value.int to t2), (("source" : Str), Value.ref q), (("begin" : Str), Value.int begin t3), (("many" : Str), Value.int many t4), (("limit" : Str), Value.int limit t5), (("page" : Str), Value.int page t6)]) ?k1 ?k2 ?k3 ?k4 ?k5 ?kA ?kF ?kK ?k6 ?k7 ?k8 ?k9 ?kB ?kD ?_ ?c2 ?c3 ?c4; (case kA => exact rfl); (case kF => exact rfl); (case kK => assumption); (case k1 => k_asm); (case k2 => k_asm); (case k3 => k_asm); (case k4 => k_asm); (case k5 => k_asm); (case k6 => k_is); (case k7 => k_is); (case k8 => ktr_room); (case k9 => exact BindsTo.of_eq rfl); (case kB => exact rfl); (case kD => decide +kernel); (case c2 => exact rfl); (case c3 => exact rfl); (case c4 => exact rfl); k_whole; intro g' L' h' tk' cells' FG' F' N' Y' B' X' T' l1; have l2 := l1; (try k_lt l2); k_cells Y'; (try simp only [List.cons_append, List.nil_append] at N'); (try dsimp only); (try k_fold))
  k_steps
  · exact hret _ _ _ _ (dueR_mk (due7r (.inl (by assumption))) hi ⟨_, rfl⟩ rfl) (by assumption) (News.perm (by assumption) (mem3 (.head _) (.tail _ (.head _)) (.tail _ (.tail _ (.tail _ (.head _)))) (fun p hp => .tail _ (.tail _ (.tail _ (.tail _ (.tail _ (hp))))))))
  · exact hret _ _ _ _ (dueR_mk (due7r (.inr (by assumption))) hi ⟨_, rfl⟩ rfl) (by assumption) (News.perm (by assumption) (mem3 (.head _) (.tail _ (.head _)) (.tail _ (.tail _ (.tail _ (.head _)))) (fun p hp => .tail _ (.tail _ (.tail _ (.tail _ (.tail _ (hp))))))))
  · exact hret _ _ _ _ (dueR_mk (due7k (by assumption) (by assumption)) (by assumption) ⟨_, rfl⟩ rfl) (by assumption) (News.perm (by assumption) (mem3 (.head _) (.tail _ (.tail _ (.tail _ (.tail _ (.head _))))) (.tail _ (.head _)) (fun p hp => .tail _ (.tail _ (.tail _ (.tail _ (.tail _ (.tail _ (.tail _ (.tail _ (hp)))))))))))
set_option maxRecDepth 100000 in
set_option maxHeartbeats 8000000 in
theorem due4_calls (w : World) (r q : Addr) (vs us : List Value) (ns ms : List Int) (k j : Nat) (to begin many limit page : Int) (t1 t2 t3 t4 t5 t6 : Tok) (hi : IntsAre vs ns) (hj : IntsAre us ms) (hz : ns.length ≤ 1000) (hz2 : ms.length ≤ 1000) (hoct : OctL ns) (hp0 : 0 < page) (hp1 : page < 1000) (hlm : limit ≤ 1000) (own : List (Addr × Obj)) :
    Calls w 16 240 [.int 4 t1, .ref r, .int to t2, .ref q, .int begin t3, .int many t4, .int limit t5, .int page t6] ((r, lstO vs k) :: (q, lstO us j) :: own) (fun res n' => DueR 4 ns ms to begin many limit page own res n') NoX := by
  unfold Calls
  k_fill
  intro mean mg mb dp un gd cn cs a ccd cl outer A₀ base h₀ L m s Q E B F X N T hk hd hu hret hraise
  refine wpAny_call ?_
  k_dflt (refine' code_defC (binds := [(("op" : Str), Value.int 4 t1), (("row" : Str), Value.ref r), (("to" : Str), Value.int to t2), (("source" : Str), Value.ref q), (("begin" : Str), Value.int begin t3), (("many" : Str), Value.int many t4), (("limit" : Str), Value.int limit t5), (("page" : Str), Value.int page t6)]) ?k1 ?k2 ?k3 ?k4 ?k5 ?kA ?kF ?kK ?k6 ?k7 ?k8 ?k9 ?kB ?kD ?_ ?c2 ?c3 ?c4; (case kA => exact rfl); (case kF => exact rfl); (case kK => assumption); (case k1 => k_asm); (case k2 => k_asm); (case k3 => k_asm); (case k4 => k_asm); (case k5 => k_asm); (case k6 => k_is); (case k7 => k_is); (case k8 => ktr_room); (case k9 => exact BindsTo.of_eq rfl); (case kB => exact rfl); (case kD => decide +kernel); (case c2 => exact rfl); (case c3 => exact rfl); (case c4 => exact rfl); k_whole; intro g' L' h' tk' cells' FG' F' N' Y' B' X' T' l1; have l2 := l1; (try k_lt l2); k_cells Y'; (try simp only [List.cons_append, List.nil_append] at N'); (try dsimp only); (try k_fold))
  k_steps
  · exact hret _ _ _ _ (dueR_mk (due4t (by assumption)) hi rfl rfl) (by assumption) (News.perm (by assumption) (mem3 (.head _) (.tail _ (.head _)) (.tail _ (.tail _ (.tail _ (.head _)))) (fun p hp => .tail _ (.tail _ (.tail _ (.tail _ (.tail _ (hp))))))))
  · exact hret _ _ _ _ (dueR_mk (due4k (by assumption) (by assumption)) hi ⟨_, rfl⟩ rfl) (by assumption) (News.perm (by assumption) (mem3 (.head _) (.tail _ (.head _)) (.tail _ (.tail _ (.tail _ (.tail _ (.tail _ (.head _)))))) (fun p hp => .tail _ (.tail _ (.tail _ (.tail _ (.tail _ (.tail _ (.tail _ (hp))))))))))
set_option maxRecDepth 100000 in
set_option maxHeartbeats 8000000 in
theorem due5_calls (w : World) (r q : Addr) (vs us : List Value) (ns ms : List Int) (k j : Nat) (to begin many limit page : Int) (t1 t2 t3 t4 t5 t6 : Tok) (hi : IntsAre vs ns) (hj : IntsAre us ms) (hz : ns.length ≤ 1000) (hz2 : ms.length ≤ 1000) (hoct : OctL ns) (hp0 : 0 < page) (hp1 : page < 1000) (hlm : limit ≤ 1000) (own : List (Addr × Obj)) :
    Calls w 16 240 [.int 5 t1, .ref r, .int to t2, .ref q, .int begin t3, .int many t4, .int limit t5, .int page t6] ((r, lstO vs k) :: (q, lstO us j) :: own) (fun res n' => DueR 5 ns ms to begin many limit page own res n') NoX := by
  unfold Calls
  k_fill
  intro mean mg mb dp un gd cn cs a ccd cl outer A₀ base h₀ L m s Q E B F X N T hk hd hu hret hraise
  refine wpAny_call ?_
  k_dflt (refine' code_defC (binds := [(("op" : Str), Value.int 5 t1), (("row" : Str), Value.ref r), (("to" : Str), Value.int to t2), (("source" : Str), Value.ref q), (("begin" : Str), Value.int begin t3), (("many" : Str), Value.int many t4), (("limit" : Str), Value.int limit t5), (("page" : Str), Value.int page t6)]) ?k1 ?k2 ?k3 ?k4 ?k5 ?kA ?kF ?kK ?k6 ?k7 ?k8 ?k9 ?kB ?kD ?_ ?c2 ?c3 ?c4; (case kA => exact rfl); (case kF => exact rfl); (case kK => assumption); (case k1 => k_asm); (case k2 => k_asm); (case k3 => k_asm); (case k4 => k_asm); (case k5 => k_asm); (case k6 => k_is); (case k7 => k_is); (case k8 => ktr_room); (case k9 => exact BindsTo.of_eq rfl); (case kB => exact rfl); (case kD => decide +kernel); (case c2 => exact rfl); (case c3 => exact rfl); (case c4 => exact rfl); k_whole; intro g' L' h' tk' cells' FG' F' N' Y' B' X' T' l1; have l2 := l1; (try k_lt l2); k_cells Y'; (try simp only [List.cons_append, List.nil_append] at N'); (try dsimp only); (try k_fold))
  k_steps
  · exact hret _ _ _ _ (dueR_mk (due5t (by assumption)) hi rfl rfl) (by assumption) (News.perm (by assumption) (mem3 (.head _) (.tail _ (.head _)) (.tail _ (.tail _ (.tail _ (.head _)))) (fun p hp => .tail _ (.tail _ (.tail _ (.tail _ (.tail _ (hp))))))))
  · exact hret _ _ _ _ (dueR_mk (due5k (by assumption) (by assumption)) hi ⟨_, rfl⟩ rfl) (by assumption) (News.perm (by assumption) (mem3 (.head _) (.tail _ (.head _)) (.tail _ (.tail _ (.tail _ (.tail _ (.head _))))) (fun p hp => .tail _ (.tail _ (.tail _ (.tail _ (.tail _ (.tail _ (hp)))))))))
theorem eq_ne {prog : Program} {w : World} {A : Around} {E : Value → Shared → Prop} {s : Shared} {a b : Int} {t u : Tok} {Q : Value → Shared → Prop} (h : a ≠ b) (hq : Q (.bool false) s) : wpAny (model prog w) A (compareOp .Eq (.int a t) (.int b u)) Q E s :=
  PyProof.Rows.eq_int (by rw [beq_eq_false_iff_ne.mpr h]; exact hq)
theorem lines_Law3_3 : True := by
  k_with "mine compareOp Eq int int" => (k_here; (with_reducible refine' eq_ne ?h ?_); (case h => assumption))
  trivial
set_option maxRecDepth 100000 in
set_option maxHeartbeats 8000000 in
theorem dueM_calls (w : World) (r q : Addr) (vs us : List Value) (ns ms : List Int) (k j : Nat) (op to begin many limit page : Int) (t1 t2 t3 t4 t5 t6 : Tok) (hi : IntsAre vs ns) (hj : IntsAre us ms) (hz : ns.length ≤ 1000) (hz2 : ms.length ≤ 1000) (hoct : OctL ns) (hp0 : 0 < page) (hp1 : page < 1000) (hlm : limit ≤ 1000) (h4 : op ≠ 4) (h5 : op ≠ 5) (h7 : op ≠ 7) (own : List (Addr × Obj)) :
    Calls w 16 240 [.int op t1, .ref r, .int to t2, .ref q, .int begin t3, .int many t4, .int limit t5, .int page t6] ((r, lstO vs k) :: (q, lstO us j) :: own) (fun res n' => DueR op ns ms to begin many limit page own res n') NoX := by
  unfold Calls
  k_fill
  intro mean mg mb dp un gd cn cs a ccd cl outer A₀ base h₀ L m s Q E B F X N T hk hd hu hret hraise
  refine wpAny_call ?_
  k_dflt (refine' code_defC (binds := [(("op" : Str), Value.int op t1), (("row" : Str), Value.ref r), (("to" : Str), Value.int to t2), (("source" : Str), Value.ref q), (("begin" : Str), Value.int begin t3), (("many" : Str), Value.int many t4), (("limit" : Str), Value.int limit t5), (("page" : Str), Value.int page t6)]) ?k1 ?k2 ?k3 ?k4 ?k5 ?kA ?kF ?kK ?k6 ?k7 ?k8 ?k9 ?kB ?kD ?_ ?c2 ?c3 ?c4; (case kA => exact rfl); (case kF => exact rfl); (case kK => assumption); (case k1 => k_asm); (case k2 => k_asm); (case k3 => k_asm); (case k4 => k_asm); (case k5 => k_asm); (case k6 => k_is); (case k7 => k_is); (case k8 => ktr_room); (case k9 => exact BindsTo.of_eq rfl); (case kB => exact rfl); (case kD => decide +kernel); (case c2 => exact rfl); (case c3 => exact rfl); (case c4 => exact rfl); k_whole; intro g' L' h' tk' cells' FG' F' N' Y' B' X' T' l1; have l2 := l1; (try k_lt l2); k_cells Y'; (try simp only [List.cons_append, List.nil_append] at N'); (try dsimp only); (try k_fold))
  k_steps
  · exact hret _ _ _ _ (dueR_mk (dueMt h4 h5 h7 (by assumption)) hi rfl rfl) (by assumption) (News.perm (by assumption) (mem3 (.head _) (.tail _ (.head _)) (.tail _ (.tail _ (.tail _ (.head _)))) (fun p hp => .tail _ (.tail _ (.tail _ (.tail _ (.tail _ (hp))))))))
  · exact hret _ _ _ _ (dueR_mk (dueMk h4 h5 h7 (by assumption) (by assumption) (by assumption)) (by assumption) rfl rfl) (by assumption) (News.perm (by assumption) (mem3 (.head _) (.tail _ (.head _)) (.tail _ (.tail _ (.head _))) (fun p hp => .tail _ (.tail _ (.tail _ (.tail _ (.tail _ (.tail _ (hp)))))))))
theorem due_calls (w : World) (r q : Addr) (vs us : List Value) (ns ms : List Int) (k j : Nat) (op to begin many limit page : Int) (t1 t2 t3 t4 t5 t6 : Tok) (hi : IntsAre vs ns) (hj : IntsAre us ms) (hz : ns.length ≤ 1000) (hz2 : ms.length ≤ 1000) (hoct : OctL ns) (hp0 : 0 < page) (hp1 : page < 1000) (hlm : limit ≤ 1000) (own : List (Addr × Obj)) :
    Calls w 16 240 [.int op t1, .ref r, .int to t2, .ref q, .int begin t3, .int many t4, .int limit t5, .int page t6] ((r, lstO vs k) :: (q, lstO us j) :: own) (fun res n' => DueR op ns ms to begin many limit page own res n') NoX := by
  by_cases h7 : op = 7
  · subst h7; exact due7_calls w r q vs us ns ms k j to begin many limit page t1 t2 t3 t4 t5 t6 hi hj hz hz2 hoct hp0 hp1 hlm own
  by_cases h4 : op = 4
  · subst h4; exact due4_calls w r q vs us ns ms k j to begin many limit page t1 t2 t3 t4 t5 t6 hi hj hz hz2 hoct hp0 hp1 hlm own
  by_cases h5 : op = 5
  · subst h5; exact due5_calls w r q vs us ns ms k j to begin many limit page t1 t2 t3 t4 t5 t6 hi hj hz hz2 hoct hp0 hp1 hlm own
  · exact dueM_calls w r q vs us ns ms k j op to begin many limit page t1 t2 t3 t4 t5 t6 hi hj hz hz2 hoct hp0 hp1 hlm h4 h5 h7 own
end Mine
end
section
open PySem PySem.W PyProof.Rows PySem.Calls
set_option Elab.async false
namespace Mine
set_option maxRecDepth 100000
section
variable {M : Model} {A : Around} {E : Value → Shared → Prop} {s : Shared} {env : Env}
theorem wpC_spliced_cons {x : Sem Value} {rest : List (Bool × Sem Value)} {Q : List Value → Shared → Prop}
    (h : wpC M A x (fun v s₁ => wpC M A (spliced rest) (fun vs s₂ => Q (v :: vs) s₂) E s₁) E s) : wpC M A (spliced ((false, x) :: rest)) Q E s := by
  rw [spliced]
  refine wpC_bind (wpC_mono h (fun v s₁ h₁ => ?_) fun _ _ x => x)
  simp only [Bool.false_eq_true, if_false]
  exact wpC_bind (wpC_pure (wpC_bind (wpC_holding (wpC_mono h₁ (fun vs s₂ h₂ => wpC_pure h₂) fun _ _ x => x))))
theorem wpC_Tuple2 {e1 e2 : Expr} {k : Nat} {pos : Pos} {Q : Value → Shared → Prop}
    (h : wpAny M A (eval e1 env) (fun v1 s₁ => wpC M A (eval e2 env) (fun v2 s₂ => wpAny M A (newTuple [v1, v2]) Q E s₂) E s₁) E s)
    (he : starEach [e1, e2] env = [(false, eval e1 env), (false, eval e2 env)] := by rfl) : wpC M A (eval (.Tuple [e1, e2] k pos) env) Q E s := by
  show wpC M A (do standAt pos; newTuple (← spliced (backTo pos (starEach [e1, e2] env)))) Q E s
  refine wpC_standAt (wpC_bind ?_)
  rw [he]
  show wpC M A (spliced [(false, eval e1 env), (false, eval e2 env)]) _ E s
  refine wpC_spliced_cons (wpC_of (wpAny_mono h (fun v1 s₁ h₁ => ?_) fun _ _ x => x))
  exact wpC_spliced_cons (wpC_mono h₁ (fun v2 s₂ h₂ => wpC_pure (wpC_of h₂)) fun _ _ x => x)
/-- the argument of a call is itself a call over clean stacks: none -/
theorem CallsC.use {w : World} {n : Nat} {f : Addr} {vs : List Value} {news : List (Addr × Obj)} {P : Value → List (Addr × Obj) → Prop} {X : Addr → Str → Prop} (C : CallsC w n f vs news P X)
    {mean : ExcName → Option Value} {mg mb : Str → Option Value} {dp un : Nat} {cn : Str} {cs : Scope} {a : Addr} {ccd : Value} {cl : List (Str × Addr)} {outer : List Env} {A₀ : Around} {base h₀ : Heap} {L : Addr} {m : Str → Option Value} {s : Shared} {Q E : Value → Shared → Prop}
    (B : Below A₀ base outer h₀) (F : Fr h₀ L s.heap m) (K : (MineH.top.heap_1 w.params).In h₀) (N : News h₀ L s.heap news) (T : Top MineH.top.view_1 (looseW MineH.top.view_1 []) mean mg mb h₀) (hk : cs.kind = .function) (hd : dp + n < recursionLimit) (hu : un + 10 * n < cLine)
    (hr : ∀ r news' h' tk', P r news' → Fr h₀ L h' m → News h₀ L h' news' → Q r { s with heap := h', toks := tk' })
    (hx : ∀ e C why dx H k tw h' tk', X C why → RaisedM base (envX cn cs L a ccd cl :: outer) e C dx ((dx, dictOf [⟨H, .str "why" k, .str why tw⟩] 1) :: news) h' → (∃ g, Fr h₀ L g m ∧ g.UpToSlots h') → E (.ref e) { s with heap := h', toks := tk' }) :
    wpC (model PySem.Challenge.rw_nm0116_01.row.prog w) (ktrTop dp un (some []) cn cs L a ccd cl outer) (call (.ref f) vs) Q E s := C _ _ _ _ _ _ _ _ _ _ _ _ _ _ _ _ _ _ _ B F K N T hk hd hu hr hx
end
/-- a call of a def that may catch, from law's own frame, over clean stacks -/
def CallsT (w : World) (n : Nat) (f : Addr) (vs : List Value) (news : List (Addr × Obj)) (P : Value → List (Addr × Obj) → Prop) : Prop :=
  ∀ (mean : ExcName → Option Value) (mg mb : Str → Option Value) (dp un : Nat) (cn : Str) (cs : Scope) (a : Addr) (ccd : Value) (cl : List (Str × Addr)) (A₀ : Around) (h₀ : Heap) (L : Addr) (m : Str → Option Value) (s : Shared) (Q E : Value → Shared → Prop),
    Below A₀ h₀ [] h₀ → Fr h₀ L s.heap m → (MineH.top.heap_1 w.params).In h₀ → News h₀ L s.heap news → Top MineH.top.view_1 (looseW MineH.top.view_1 []) mean mg mb h₀ → cs.kind = .function → dp + n < recursionLimit → un + 10 * n < cLine →
    (∀ r news' h' tk', P r news' → Fr h₀ L h' m → News h₀ L h' news' → Q r { s with heap := h', toks := tk' }) →
    wpC (model PySem.Challenge.rw_nm0116_01.row.prog w) (ktrTop dp un (some []) cn cs L a ccd cl []) (call (.ref f) vs) Q E s
theorem CallsT.use {w : World} {n : Nat} {f : Addr} {vs : List Value} {news : List (Addr × Obj)} {P : Value → List (Addr × Obj) → Prop} (C : CallsT w n f vs news P)
    {mean : ExcName → Option Value} {mg mb : Str → Option Value} {dp un : Nat} {cn : Str} {cs : Scope} {a : Addr} {ccd : Value} {cl : List (Str × Addr)} {A₀ : Around} {h₀ : Heap} {L : Addr} {m : Str → Option Value} {s : Shared} {Q E : Value → Shared → Prop}
    (B : Below A₀ h₀ [] h₀) (F : Fr h₀ L s.heap m) (K : (MineH.top.heap_1 w.params).In h₀) (N : News h₀ L s.heap news) (T : Top MineH.top.view_1 (looseW MineH.top.view_1 []) mean mg mb h₀) (hk : cs.kind = .function) (hd : dp + n < recursionLimit) (hu : un + 10 * n < cLine)
    (hr : ∀ r news' h' tk', P r news' → Fr h₀ L h' m → News h₀ L h' news' → Q r { s with heap := h', toks := tk' }) :
    wpC (model PySem.Challenge.rw_nm0116_01.row.prog w) (ktrTop dp un (some []) cn cs L a ccd cl []) (call (.ref f) vs) Q E s := C _ _ _ _ _ _ _ _ _ _ _ _ _ _ _ _ _ B F K N T hk hd hu hr
theorem inst_exc {h₀ h : Heap} {L e dx C : Addr} {news : List (Addr × Obj)} {oe : Obj} {es : List DictEntry} {n : Nat} (N : News h₀ L h news) (hm : (e, oe) ∈ news) (hd : (dx, dictOf es n) ∈ news) (hc : oe.cls = .ref C) (hx : oe.dict = some dx) (hn : notCls oe = true) : InstAt h e oe C (some (dictOf es n)) :=
  ⟨N.get hm, hc, hn, by rw [hx]; exact N.get hd⟩
theorem why_facts (w : World) : findIn (MineH.top.heap_1 w.params) (.ref 44) "__getattribute__" = some (some (.builtin "BaseException.__getattribute__")) ∧ findIn (MineH.top.heap_1 w.params) (.ref 44) "__getattr__" = some none ∧ hasDictIn (MineH.top.heap_1 w.params) 44 = true ∧ findIn (MineH.top.heap_1 w.params) (.ref 44) "why" = some none := by
  refine ⟨?_, ?_, ?_, ?_⟩ <;> kernel_rfl
theorem why_facts' (w : World) : findIn (MineH.top.heap_1 w.params) (.ref 56) "__getattribute__" = some (some (.builtin "BaseException.__getattribute__")) ∧ findIn (MineH.top.heap_1 w.params) (.ref 56) "__getattr__" = some none ∧ hasDictIn (MineH.top.heap_1 w.params) 56 = true ∧ findIn (MineH.top.heap_1 w.params) (.ref 56) "why" = some none := by
  refine ⟨?_, ?_, ?_, ?_⟩ <;> kernel_rfl
theorem bga_kind : builtinKind "BaseException.__getattribute__" = some .slot := by decide +kernel
theorem bga_plain : plainId "BaseException.__getattribute__" = true := by decide +kernel
theorem bga_split : splitId "BaseException.__getattribute__" = some ("BaseException", "__getattribute__") := by decide +kernel
theorem bga_not : (Value.builtin "BaseException.__getattribute__" == Value.builtin "object.__getattribute__") = false := by decide +kernel
theorem bga_bind {M : Model} (h : Heap) (x : Addr) : Looks M h (bindSpecial (.builtin "BaseException.__getattribute__") (.ref x)) (.builtin "BaseException.__getattribute__", [.ref x]) := by
  have f := PySem.F.excBase_Exception
  exact Looks.of_pure (by kernel_rfl)
section
variable {prog : Program} {w : World} {A : Around} {E : Value → Shared → Prop} {s : Shared} {K : Frag} {h₀ : Heap} {L x C N : Addr} {m : Str → Option Value} {ox : Obj} {od : Option Obj} {name : Str} {expr : Bool} {Q : Value → Shared → Prop} {v : Value}
theorem get_exc (F : Fr h₀ L s.heap m) (X₀ : K.In h₀) (I : InstAt s.heap x ox C od) (hC : FaultCls K C N) (hga : findIn K (.ref C) "__getattribute__" = some (some (.builtin "BaseException.__getattribute__"))) (hgt : findIn K (.ref C) "__getattr__" = some none)
    (hf : findObj K C od name = some (.value v)) (hh : handedIn v = true) (h : Q v { s with toks := s.toks + 1 }) : wpAny (model prog w) A (getAttr (.ref x) name expr) Q E s := by
  have X : K.In s.heap := X₀.keeps F.keep
  obtain ⟨hp, g, d, t, os⟩ := s
  have L0 := I.type (M := model prog w)
  have L1 := looks_findIn (M := model prog w) X hga
  have L2 := looks_findIn (M := model prog w) X hgt
  have L3 := looks_find (M := model prog w) X I hf
  obtain ⟨oC, cd, hCo, hCd, hmro, hdct, hcls⟩ := fault_cls (M := model prog w) X hC
  have hm : Looks (model prog w) hp (mroOf (.ref C)) (.ref C :: excBm) := by rw [← hmro]; exact hcls.andThen .now
  have sub : Looks (model prog w) hp (isInstance (.ref x) (.type "BaseException")) true := L0.andThen (hm.andThen (Looks.of_pure (congrArg pure (exc_cBB C))))
  unfold getAttr getAttrBy
  refine wpAny_bind (wpAny_mkText (wpAny_holding (wpAny_bind (L0.at (wpAny_bind (L1.at ?_))))))
  dsimp only
  rw [bga_not, Bool.and_false]
  show wpAny _ _ (getAttrByItsOwn _ _ _ _ _ _) _ _ _
  unfold getAttrByItsOwn
  refine wpAny_bind (m := hookBefore (.ref C)) (L2.at (wpAny_bind (wpAny_attempt (wpAny_holding ?_))))
  show wpAny _ _ (callGetattribute (.ref x) _ (.builtin "BaseException.__getattribute__") expr) _ _ _
  have e : callGetattribute (.ref x) (.str name t) (.builtin "BaseException.__getattribute__") expr = boundAndCalled (.builtin "BaseException.__getattribute__") (.ref x) (.str name t) := by cases expr <;> rfl
  rw [e]
  unfold boundAndCalled
  refine wpAny_bind ((bga_bind hp x).at (wpAny_call ?_))
  refine codeAny_call_builtin bga_plain PySem.F.entry_bexc_ga (@check_slot (model prog w) _ _ _ "BaseException.__getattribute__" "BaseException" "__getattribute__" (.ref x) [.str name t] [] _ bga_kind bga_split sub (PySem.F.args_bexc_ga (.ref x) (.str name t)) ?_)
  show wpAny _ _ (Builtin.«object.__getattribute__» ⟨[.ref x, .str name t], []⟩) _ _ _
  unfold Builtin.«object.__getattribute__»
  refine wpAny_bind (wpAny_pure (wpAny_bind (wpAny_pure (wpAny_bind (L0.at (wpAny_bind (L3.at ?_)))))))
  refine wpAny_pure ?_
  show wpAny _ _ (handedOut v) _ _ _
  rw [handedOut_of hh]; exact wpAny_pure h
end
theorem why_get {prog : Program} {w : World} {A : Around} {E : Value → Shared → Prop} {s : Shared} {h₀ : Heap} {L e dx : Addr} {m : Str → Option Value} {news : List (Addr × Obj)} {oe : Obj} {H : Int} {k tw : Tok} {y : Str} {expr : Bool} {Q : Value → Shared → Prop}
    (F : Fr h₀ L s.heap m) (X₀ : (MineH.top.heap_1 w.params).In h₀) (N : News h₀ L s.heap news) (hm : (e, oe) ∈ news) (hd : (dx, dictOf [⟨H, .str "why" k, .str y tw⟩] 1) ∈ news) (hc : oe.cls = .ref 44 ∨ oe.cls = .ref 56) (hx : oe.dict = some dx) (hn : notCls oe = true)
    (h : Q (.str y tw) { s with toks := s.toks + 1 }) : wpAny (model prog w) A (getAttr (.ref e) "why" expr) Q E s := by
  rcases hc with hc | hc
  · obtain ⟨f1, f2, f3, f4⟩ := why_facts w
    exact get_exc F X₀ (inst_exc N hm hd hc hx hn) (trap_cls w) f1 f2 (findObj_own f3 f4 (by kernel_rfl) (by kernel_rfl)) rfl h
  · obtain ⟨f1, f2, f3, f4⟩ := why_facts' w
    exact get_exc F X₀ (inst_exc N hm hd hc hx hn) (misused_cls w) f1 f2 (findObj_own f3 f4 (by kernel_rfl) (by kernel_rfl)) rfl h
end Mine
end
section
open PySem PySem.W PyProof.Rows
set_option Elab.async false
namespace Mine
theorem plain_Told : True := by
  w_top off
  k_with_none
  trivial
abbrev ToldR (M0 : Mem) (own : List (Addr × Obj)) (a : Ans) (d' : List UInt8) (res : Value) (n' : List (Addr × Obj)) : Prop :=
  ∃ O ts v, res = .ref O ∧ a.is v ∧ n' = (O, tupO [.str a.word ts, v]) :: ({ M0 with d := d' } : Mem).led own
theorem keep13 {a c d : Addr × Obj} {news : List (Addr × Obj)} : ∀ p ∈ a :: news, p ∈ a :: c :: d :: news := by
  intro p hp
  rcases List.mem_cons.mp hp with rfl | hp
  · exact .head _
  · exact .tail _ (.tail _ (.tail _ hp))
theorem lines_Told_0 : True := by
  w_top off
  k_with_none
  k_with "mine call builtin:len" => (k_here; (with_reducible show wpAny _ _ (call (Value.builtin "len") [Value.bytes _ _]) _ _ _); refine' len_bytesL ?z ?_; (case z => omega))
  k_with "mine wpC" => (k_here; (with_reducible show wpC _ _ (execs (_ :: _) _) _ _ _); with_reducible refine wpC_execs_consA ?_)
  k_with "mine wpC" => (k_here; (with_reducible show wpC _ _ (execs [] _) _ _ _); with_reducible refine wpC_execs_nil ?_)
  k_with "mine wpC" => (k_here; (with_reducible show wpC _ _ (execs (Stmt.Assign [Expr.Subscript _ _ _] _ _ :: _) _) _ _ _); k_dflt (refine wpC_execs_cons (wpC_Assign_Subscript ?_ (by with_unfolding_all rfl))))
  k_with "mine wpC" => (k_here; (with_reducible show wpC _ _ (execs (Stmt.Expr (Expr.Call (Expr.Attribute (Expr.Attribute _ _ _) _ _) _ _ _) _ :: _) _) _ _ _); k_dflt (refine wpC_execs_cons (wpC_Expr ?_ (by with_unfolding_all rfl) (by with_unfolding_all rfl))))
  k_with "mine wpC" => (k_here; (with_reducible show wpC _ _ (execs (Stmt.Assign [Expr.Attribute _ _ _] (Expr.Call _ _ _ _) _ :: _) _) _ _ _); k_dflt (refine wpC_execs_cons (wpC_Assign_Attribute ?_ (by with_unfolding_all rfl))))
  k_with "mine wpC" => (k_here; (with_reducible show wpC _ _ (eval (Expr.Call (Expr.Attribute _ _ _) _ _ _) _) _ _ _); k_dflt (refine wpC_Call_Attr ?_ (by with_unfolding_all rfl)))
  k_with "mine wpC" => (k_here; (with_reducible show wpC _ _ (eval (Expr.Call (Expr.Name _ _) _ _ _) _) _ _ _); k_dflt (refine wpC_Call_Name ?_))
  k_with "mine wpC" => (k_here; (with_reducible show wpC _ _ (callWith _ (Value.builtin _) _ _ _) _ _ _); k_dflt (refine wpC_callWith_mach (by with_unfolding_all rfl) ?_ (by with_unfolding_all rfl) (by with_unfolding_all rfl)))
  k_with "mine wpC" => (k_here; (with_reducible show wpC _ _ (setItem (Value.ref _) (Value.ref _) (Value.bytes _ _)) _ _ _); k_dflt (refine' setslice_bytesK ?g ?F ?N ?U ?a ?b ?c ?d ?z ?_; (case g => exact rfl); (case F => k_asm); (case N => k_asm); (case U => k_upd); (case z => assumption); (case a => omega); (case b => omega); (case c => omega); (case d => first | exact partD (by assumption) (by assumption) (by assumption) | omega | (simp only [List.length_map, octI_length]; omega) | ((show ((fillU _ _).length : Int) = _); rw [fillU_length]; omega) | (rw [part_length (by omega)]; omega)); k_whole; intro h' F' N'))
  k_with "mine k_handed" => assumption
  k_with "mine wpC" => (k_here; (with_reducible show wpC _ _ (execs (Stmt.Try _ _ _ _ _ :: _) _) _ _ _); k_dflt (refine wpC_execs_cons (wpC_Try_except ?_)))
  k_with "mine wpC" => (k_here; (with_reducible show wpC _ _ (execs (Stmt.If _ _ _ _ :: _) _) _ _ _); k_dflt (refine wpC_execs_cons (wpC_If ?_)))
  k_with "mine wpC" => (k_here; (with_reducible show wpC _ _ (execs (Stmt.Return (some (Expr.Tuple _ _ _)) _ :: _) _) _ _ _); k_dflt (refine wpC_execs_cons (wpC_Return_some (wpC_Tuple2 ?_ (by with_unfolding_all rfl)))))
  k_with "mine wpC" => (k_here; (with_reducible show wpC _ _ (callWith _ (Value.ref _) _ _ _) _ _ _); k_dflt (refine' wpC_callWith_K ?X ?k ?_ (by with_unfolding_all rfl) (by with_unfolding_all rfl); (case X => k_asm); (case k => k_is)))
  k_with "mine noteFrame ref" => (k_here; k_dflt (refine' caught_M ?R ?F ?K ?m ?f ?s ?XB ?TB (trap_cls _) ?e ?_; (case R => assumption); (case F => assumption); (case K => assumption); (case m => assumption); (case f => exact rfl); (case s => assumption); (case XB => assumption); (case TB => assumption); (case e => k_is)); k_whole; intro h' g' oe' tk' T' F' N' oc' ox' on' B' X' T2' M'; (try dsimp only))
  k_with "mine getAttr ref" => (k_here; k_dflt (refine' why_get ?F ?X ?N ?m ?d ?c ?x ?n ?_; (case F => k_asm); (case X => k_asm); (case N => k_asm); (case m => k_dflt k_mem); (case d => k_dflt k_mem); (case c => exact .inl (by assumption)); (case x => assumption); (case n => assumption)); k_whole)
  k_with "mine wpC" => (k_here; (with_reducible show wpC _ _ (call (Value.ref 154) [Value.ref _, Value.int _ _, Value.bytes _ _]) _ _ _); k_dflt (refine' CallsC.use (write_calls _ ⟨_, _, _, _, _, _, _, _, _, _, _, _, _, _, _, _, _⟩ ?ok _ _ ?z1 _ _ _ ?o1 ?o2 ?o3) ?B ?F ?X ?N ?T ?k ?d ?u ?_ ?_); (case B => k_asm); (case F => k_asm); (case X => k_asm); (case N => k_dflt (k_asm)); (case T => k_asm); (case k => k_dflt (exact rfl)); (case d => ktr_room); (case u => ktr_units); (case ok => exact ⟨by assumption, by assumption, by assumption, by assumption, by assumption⟩); (case z1 => assumption); (case o1 => assumption); (case o2 => assumption); (case o3 => assumption); all_goals k_whole; all_goals (first | (intro e C why dx H k tw h' tk' hX R U; obtain ⟨hC, hW, nb⟩ := hX; subst hC; subst hW; obtain ⟨gU, FU, sU⟩ := U) | (intro r n' h' tk' hP F' N'; obtain ⟨hr, hn, b0, b1⟩ := hP; subst hr; subst hn)))
  k_with "mine wpC" => (k_here; (with_reducible show wpC _ _ (call (Value.ref 168) [Value.ref _, Value.int _ _, Value.int _ _, Value.int _ _]) _ _ _); k_dflt (refine' CallsC.use (Calls.c (copy_calls _ ⟨_, _, _, _, _, _, _, _, _, _, _, _, _, _, _, _, _⟩ ?ok _ _ _ _ _ _ _ ?o1 ?o2 ?o3)) ?B ?F ?X ?N ?T ?k ?d ?u ?_ ?_); (case B => k_asm); (case F => k_asm); (case X => k_asm); (case N => k_dflt (k_asm)); (case T => k_asm); (case k => k_dflt (exact rfl)); (case d => ktr_room); (case u => ktr_units); (case ok => exact ⟨by assumption, by assumption, by assumption, by assumption, by assumption⟩); (case o1 => assumption); (case o2 => assumption); (case o3 => assumption); all_goals k_whole; all_goals (first | (intro e C why dx H k tw h' tk' hX R U; obtain ⟨hC, hW, nb⟩ := hX; subst hC; subst hW; obtain ⟨gU, FU, sU⟩ := U) | (intro r n' h' tk' hP F' N'; obtain ⟨hr, hn, b0, b1, b2, b3, b4⟩ := hP; subst hr; subst hn)))
  k_with "mine wpC" => (k_here; (with_reducible show wpC _ _ (call (Value.ref 161) [Value.ref _, Value.int _ _, Value.int _ _, Value.int _ _]) _ _ _); k_dflt (refine' CallsC.use (fill_calls _ ⟨_, _, _, _, _, _, _, _, _, _, _, _, _, _, _, _, _⟩ ?ok _ _ _ _ _ _ _ ?o1 ?o2 ?o3) ?B ?F ?X ?N ?T ?k ?d ?u ?_ ?_); (case B => k_asm); (case F => k_asm); (case X => k_asm); (case N => k_dflt (k_asm)); (case T => k_asm); (case k => k_dflt (exact rfl)); (case d => ktr_room); (case u => ktr_units); (case ok => exact ⟨by assumption, by assumption, by assumption, by assumption, by assumption⟩); (case o1 => assumption); (case o2 => assumption); (case o3 => assumption); all_goals k_whole; all_goals (first | (intro e C why dx H k tw h' tk' hX R U; obtain ⟨hC, hW, nb⟩ := hX; subst hC; subst hW; obtain ⟨gU, FU, sU⟩ := U) | (intro r n' h' tk' hP F' N'; obtain ⟨hr, hn, b0, b1, b2⟩ := hP; subst hr; subst hn)))
  k_with "mine wpC" => (k_here; (with_reducible show wpC _ _ (call (Value.ref 140) [Value.ref _, Value.int _ _, Value.int _ _, Value.int _ _]) _ _ _); k_dflt (refine' CallsC.use (store_calls _ ⟨_, _, _, _, _, _, _, _, _, _, _, _, _, _, _, _, _⟩ ?ok _ _ _ ?z1 _ _ _ _ ?o1 ?o2 ?o3) ?B ?F ?X ?N ?T ?k ?d ?u ?_ ?_); (case B => k_asm); (case F => k_asm); (case X => k_asm); (case N => k_dflt (k_asm)); (case T => k_asm); (case k => k_dflt (exact rfl)); (case d => ktr_room); (case u => ktr_units); (case ok => exact ⟨by assumption, by assumption, by assumption, by assumption, by assumption⟩); (case o1 => assumption); (case o2 => assumption); (case o3 => assumption); (case z1 => assumption); all_goals k_whole; all_goals (first | (intro e C why dx H k tw h' tk' hX R U; obtain ⟨hC, hW, nb⟩ := hX; subst hC; subst hW; obtain ⟨gU, FU, sU⟩ := U) | (intro r n' h' tk' hP F' N'; obtain ⟨hr, hn, b0, b1, b2⟩ := hP; subst hr; subst hn)))
  k_with "mine wpC" => (k_here; (with_reducible show wpC _ _ (call (Value.ref 133) [Value.ref _, Value.int _ _, Value.int _ _]) _ _ _); k_dflt (refine' CallsC.use (Calls.c (load_calls _ ⟨_, _, _, _, _, _, _, _, _, _, _, _, _, _, _, _, _⟩ ?ok _ _ _ _ ?z1 _)) ?B ?F ?X ?N ?T ?k ?d ?u ?_ ?_); (case B => k_asm); (case F => k_asm); (case X => k_asm); (case N => k_dflt (k_asm)); (case T => k_asm); (case k => k_dflt (exact rfl)); (case d => ktr_room); (case u => ktr_units); (case ok => exact ⟨by assumption, by assumption, by assumption, by assumption, by assumption⟩); (case z1 => assumption); all_goals k_whole; all_goals (first | (intro e C why dx H k tw h' tk' hX R U; obtain ⟨hC, hW, nb⟩ := hX; subst hC; subst hW; obtain ⟨gU, FU, sU⟩ := U) | (intro r n' h' tk' hP F' N'; obtain ⟨⟨_, hr⟩, hn, b0, b1, b2⟩ := hP; subst hr; subst hn)))
  k_with "mine wpC" => (k_here; (with_reducible show wpC _ _ (call (Value.ref 147) [Value.ref _, Value.int _ _, Value.int _ _]) _ _ _); k_dflt (refine' CallsC.use (Calls.c (read_calls _ ⟨_, _, _, _, _, _, _, _, _, _, _, _, _, _, _, _, _⟩ ?ok _ _ _ _ _)) ?B ?F ?X ?N ?T ?k ?d ?u ?_ ?_); (case B => k_asm); (case F => k_asm); (case X => k_asm); (case N => k_dflt (k_asm)); (case T => k_asm); (case k => k_dflt (exact rfl)); (case d => ktr_room); (case u => ktr_units); (case ok => exact ⟨by assumption, by assumption, by assumption, by assumption, by assumption⟩); all_goals k_whole; all_goals (first | (intro e C why dx H k tw h' tk' hX R U; obtain ⟨hC, hW, nb⟩ := hX; subst hC; subst hW; obtain ⟨gU, FU, sU⟩ := U) | (intro r n' h' tk' hP F' N'; obtain ⟨⟨_, hr⟩, hn, b0, b1, b2⟩ := hP; subst hr; subst hn)))
  k_with "mine wpC" => (k_here; (with_reducible show wpC _ _ (call (Value.ref 175) [Value.ref _, Value.int _ _, _, Value.int _ _, Value.int _ _]) _ _ _); k_dflt (refine' CallsC.use (init_calls _ ⟨_, _, _, _, _, _, _, _, _, _, _, _, _, _, _, _, _⟩ ?ok _ _ _ _ ?z1 _ _ _ _ _ ?z2 ?o1 ?o2 ?o3) ?B ?F ?X ?N ?T ?k ?d ?u ?_ ?_); (case B => k_asm); (case F => k_asm); (case X => k_asm); (case N => k_dflt (k_asm)); (case T => k_asm); (case k => k_dflt (exact rfl)); (case d => ktr_room); (case u => ktr_units); (case ok => exact ⟨by assumption, by assumption, by assumption, by assumption, by assumption⟩); (case o1 => assumption); (case o2 => assumption); (case o3 => assumption); (case z2 => assumption); (case z1 => assumption); all_goals k_whole; all_goals (first | (intro e C why dx H k tw h' tk' hX R U; obtain ⟨hC, hW, nb⟩ := hX; subst hC; subst hW; obtain ⟨gU, FU, sU⟩ := U) | (intro r n' h' tk' hP F' N'; obtain ⟨hr, hn, b0, b1, b2, b3, b4⟩ := hP; subst hr; subst hn)))
  k_with "mine wpC" => (k_here; (with_reducible show wpC _ _ (call (Value.ref 119) [Value.ref _, Value.int _ _]) _ _ _); k_dflt (refine' CallsC.use (grow_calls _ ⟨_, _, _, _, _, _, _, _, _, _, _, _, _, _, _, _, _⟩ ?ok _ _ _ ?o1 ?o2 ?o3) ?B ?F ?X ?N ?T ?k ?d ?u ?_ ?_); (case B => k_asm); (case F => k_asm); (case X => k_asm); (case N => k_dflt (k_asm)); (case T => k_asm); (case k => k_dflt (exact rfl)); (case d => ktr_room); (case u => ktr_units); (case ok => exact ⟨by assumption, by assumption, by assumption, by assumption, by assumption⟩); (case o1 => assumption); (case o2 => assumption); (case o3 => assumption); all_goals k_whole; all_goals (first | (intro e C why dx H k tw h' tk' hX R U; exact hX.elim) | (intro r n' h' tk' hP F' N'; rcases hP with ⟨gN, ⟨_, hr⟩, hn⟩ | ⟨gN, ⟨_, hr⟩, hn⟩ <;> subst hr <;> subst hn)))
  trivial
set_option maxRecDepth 100000 in
set_option maxHeartbeats 4000000 in
theorem told0_calls (w : World) (M0 : Mem) (ok : M0.Ok) (z : Addr) (to number begin many : Int) (t1 t2 t3 t4 t5 tv : Tok) (sv : Value) (o : List UInt8) (hol : o.length ≤ 1000000) (own : List (Addr × Obj)) (ho : OwnOff own [M0.b]) (hxb : @Ne Nat M0.x M0.b) (hdb : @Ne Nat M0.dx M0.b) :
    CallsT w 20 247 [.int 0 t1, .ref M0.x, .ref z, .int to t2, .int number t3, .bytes o.toArray tv, .int begin t4, .int many t5] (M0.led own) (fun res n' => ∃ a d', ((¬ (0 ≤ to ∧ to + o.length ≤ M0.d.length) ∧ a = .trap ∧ d' = M0.d) ∨ ((0 ≤ to ∧ to + o.length ≤ M0.d.length) ∧ a = .non ∧ d' = paste M0.d to.toNat o)) ∧ ToldR M0 own a d' res n') := by
  obtain ⟨x, dx, b, H1, H2, H3, H4, k1, k2, k3, k4, tp, tq, most, page, pages, d⟩ := M0
  obtain ⟨p0, p1, sz, pg, mo⟩ := ok
  dsimp only at p0 p1 sz pg mo ho hxb hdb
  unfold CallsT
  dsimp only [Mem.led]
  k_fill
  intro mean mg mb dp un cn cs a ccd cl A₀ h₀ L m s Q E B F X N T hk hd hu hret
  have hmo : handedIn most = true := by rcases mo with rfl | ⟨_, _, rfl⟩ <;> rfl
  refine wpC_call ?_
  k_dflt (refine' codeC_defT ?k1 ?k2 ?k3 ?k4 ?k5 ?kA ?kF ?kK ?k6 ?k7 ?k8 ?k9 ?kB ?_ ?c2 ?c3 ?c4 ?c5; (case kA => exact rfl); (case kF => exact rfl); (case kK => assumption); (case k1 => k_asm); (case k2 => k_asm); (case k3 => k_asm); (case k4 => k_asm); (case k5 => k_asm); (case k6 => k_is); (case k7 => k_is); (case k8 => ktr_room); (case k9 => exact BindsTo.of_eq rfl); (case c5 => decide); (case kB => exact locs rfl); (case c2 => exact rfl); (case c3 => exact rfl); (case c4 => exact rfl); k_whole; intro g' L' h' tk' FG' F' N' B' X' T' mn'; (try dsimp only))
  k_steps
  all_goals first
    | exact hret _ _ _ _ ⟨_, _, .inr ⟨⟨by assumption, by assumption⟩, rfl, rfl⟩, _, _, _, rfl, rfl, rfl⟩ (by assumption) (by assumption)
    | exact hret _ _ _ _ ⟨_, _, .inl ⟨by assumption, rfl, rfl⟩, _, _, _, rfl, rfl, rfl⟩ (by assumption) (News.perm (by assumption) keep13)
set_option maxRecDepth 100000 in
set_option maxHeartbeats 4000000 in
theorem told1_calls (w : World) (M0 : Mem) (ok : M0.Ok) (z : Addr) (to number begin many : Int) (t1 t2 t3 t4 t5 tv : Tok) (sv : Value) (hsv : handedIn sv = true) (own : List (Addr × Obj)) (ho : OwnOff own [M0.b]) (hxb : @Ne Nat M0.x M0.b) (hdb : @Ne Nat M0.dx M0.b) :
    CallsT w 20 247 [.int 1 t1, .ref M0.x, .ref z, .int to t2, .int number t3, sv, .int begin t4, .int many t5] (M0.led own) (fun res n' => ∃ a d', ((¬ (0 ≤ begin ∧ 0 ≤ many ∧ begin + many ≤ M0.d.length ∧ 0 ≤ to ∧ to + many ≤ M0.d.length) ∧ a = .trap ∧ d' = M0.d) ∨ ((0 ≤ begin ∧ 0 ≤ many ∧ begin + many ≤ M0.d.length ∧ 0 ≤ to ∧ to + many ≤ M0.d.length) ∧ a = .non ∧ d' = paste M0.d to.toNat (part M0.d begin.toNat (begin + many - begin).toNat))) ∧ ToldR M0 own a d' res n') := by
  obtain ⟨x, dx, b, H1, H2, H3, H4, k1, k2, k3, k4, tp, tq, most, page, pages, d⟩ := M0
  obtain ⟨p0, p1, sz, pg, mo⟩ := ok
  dsimp only at p0 p1 sz pg mo ho hxb hdb
  unfold CallsT
  dsimp only [Mem.led]
  k_fill
  intro mean mg mb dp un cn cs a ccd cl A₀ h₀ L m s Q E B F X N T hk hd hu hret
  have hmo : handedIn most = true := by rcases mo with rfl | ⟨_, _, rfl⟩ <;> rfl
  refine wpC_call ?_
  k_dflt (refine' codeC_defT ?k1 ?k2 ?k3 ?k4 ?k5 ?kA ?kF ?kK ?k6 ?k7 ?k8 ?k9 ?kB ?_ ?c2 ?c3 ?c4 ?c5; (case kA => exact rfl); (case kF => exact rfl); (case kK => assumption); (case k1 => k_asm); (case k2 => k_asm); (case k3 => k_asm); (case k4 => k_asm); (case k5 => k_asm); (case k6 => k_is); (case k7 => k_is); (case k8 => ktr_room); (case k9 => exact BindsTo.of_eq rfl); (case c5 => decide); (case kB => exact locs rfl); (case c2 => exact rfl); (case c3 => exact rfl); (case c4 => exact rfl); k_whole; intro g' L' h' tk' FG' F' N' B' X' T' mn'; (try dsimp only))
  k_steps
  all_goals first
    | exact hret _ _ _ _ ⟨_, _, .inr ⟨⟨by assumption, by assumption, by assumption, by assumption, by assumption⟩, rfl, rfl⟩, _, _, _, rfl, rfl, rfl⟩ (by assumption) (by assumption)
    | exact hret _ _ _ _ ⟨_, _, .inl ⟨by assumption, rfl, rfl⟩, _, _, _, rfl, rfl, rfl⟩ (by assumption) (News.perm (by assumption) keep13)
set_option maxRecDepth 100000 in
set_option maxHeartbeats 4000000 in
theorem told2_calls (w : World) (M0 : Mem) (ok : M0.Ok) (z : Addr) (to number begin many : Int) (t1 t2 t3 t4 t5 tv : Tok) (sv : Value) (hsv : handedIn sv = true) (own : List (Addr × Obj)) (ho : OwnOff own [M0.b]) (hxb : @Ne Nat M0.x M0.b) (hdb : @Ne Nat M0.dx M0.b) :
    CallsT w 20 247 [.int 2 t1, .ref M0.x, .ref z, .int to t2, .int number t3, sv, .int begin t4, .int many t5] (M0.led own) (fun res n' => ∃ a d', ((¬ (0 ≤ to ∧ 0 ≤ many ∧ to + many ≤ M0.d.length) ∧ a = .trap ∧ d' = M0.d) ∨ ((0 ≤ to ∧ 0 ≤ many ∧ to + many ≤ M0.d.length) ∧ a = .non ∧ d' = paste M0.d to.toNat (fillU number many.toNat))) ∧ ToldR M0 own a d' res n') := by
  obtain ⟨x, dx, b, H1, H2, H3, H4, k1, k2, k3, k4, tp, tq, most, page, pages, d⟩ := M0
  obtain ⟨p0, p1, sz, pg, mo⟩ := ok
  dsimp only at p0 p1 sz pg mo ho hxb hdb
  unfold CallsT
  dsimp only [Mem.led]
  k_fill
  intro mean mg mb dp un cn cs a ccd cl A₀ h₀ L m s Q E B F X N T hk hd hu hret
  have hmo : handedIn most = true := by rcases mo with rfl | ⟨_, _, rfl⟩ <;> rfl
  refine wpC_call ?_
  k_dflt (refine' codeC_defT ?k1 ?k2 ?k3 ?k4 ?k5 ?kA ?kF ?kK ?k6 ?k7 ?k8 ?k9 ?kB ?_ ?c2 ?c3 ?c4 ?c5; (case kA => exact rfl); (case kF => exact rfl); (case kK => assumption); (case k1 => k_asm); (case k2 => k_asm); (case k3 => k_asm); (case k4 => k_asm); (case k5 => k_asm); (case k6 => k_is); (case k7 => k_is); (case k8 => ktr_room); (case k9 => exact BindsTo.of_eq rfl); (case c5 => decide); (case kB => exact locs rfl); (case c2 => exact rfl); (case c3 => exact rfl); (case c4 => exact rfl); k_whole; intro g' L' h' tk' FG' F' N' B' X' T' mn'; (try dsimp only))
  k_steps
  all_goals first
    | exact hret _ _ _ _ ⟨_, _, .inr ⟨⟨by assumption, by assumption, by assumption⟩, rfl, rfl⟩, _, _, _, rfl, rfl, rfl⟩ (by assumption) (by assumption)
    | exact hret _ _ _ _ ⟨_, _, .inl ⟨by assumption, rfl, rfl⟩, _, _, _, rfl, rfl, rfl⟩ (by assumption) (News.perm (by assumption) keep13)
set_option maxRecDepth 100000 in
set_option maxHeartbeats 4000000 in
theorem told3_calls (w : World) (M0 : Mem) (ok : M0.Ok) (z : Addr) (to number begin many : Int) (t1 t2 t3 t4 t5 tv : Tok) (sv : Value) (hsv : handedIn sv = true) (hsz : M0.d.length ≤ 1000) (own : List (Addr × Obj)) (ho : OwnOff own [M0.b]) (hxb : @Ne Nat M0.x M0.b) (hdb : @Ne Nat M0.dx M0.b) :
    CallsT w 20 247 [.int 3 t1, .ref M0.x, .ref z, .int to t2, .int number t3, sv, .int begin t4, .int many t5] (M0.led own) (fun res n' => ∃ a d', ((¬ (0 ≤ to ∧ 0 ≤ many ∧ to + many ≤ M0.d.length) ∧ a = .trap ∧ d' = M0.d) ∨ ((0 ≤ to ∧ 0 ≤ many ∧ to + many ≤ M0.d.length) ∧ a = .non ∧ d' = paste M0.d to.toNat (toU (octI (Builtin.bitAnd number (1 * 2 ^ (8 * many).toNat - 1)) (many - 0).toNat)))) ∧ ToldR M0 own a d' res n') := by
  obtain ⟨x, dx, b, H1, H2, H3, H4, k1, k2, k3, k4, tp, tq, most, page, pages, d⟩ := M0
  obtain ⟨p0, p1, sz, pg, mo⟩ := ok
  dsimp only at p0 p1 sz pg mo ho hxb hdb hsz
  unfold CallsT
  dsimp only [Mem.led]
  k_fill
  intro mean mg mb dp un cn cs a ccd cl A₀ h₀ L m s Q E B F X N T hk hd hu hret
  have hmo : handedIn most = true := by rcases mo with rfl | ⟨_, _, rfl⟩ <;> rfl
  refine wpC_call ?_
  k_dflt (refine' codeC_defT ?k1 ?k2 ?k3 ?k4 ?k5 ?kA ?kF ?kK ?k6 ?k7 ?k8 ?k9 ?kB ?_ ?c2 ?c3 ?c4 ?c5; (case kA => exact rfl); (case kF => exact rfl); (case kK => assumption); (case k1 => k_asm); (case k2 => k_asm); (case k3 => k_asm); (case k4 => k_asm); (case k5 => k_asm); (case k6 => k_is); (case k7 => k_is); (case k8 => ktr_room); (case k9 => exact BindsTo.of_eq rfl); (case c5 => decide); (case kB => exact locs rfl); (case c2 => exact rfl); (case c3 => exact rfl); (case c4 => exact rfl); k_whole; intro g' L' h' tk' FG' F' N' B' X' T' mn'; (try dsimp only))
  k_steps
  all_goals first
    | exact hret _ _ _ _ ⟨_, _, .inr ⟨⟨by assumption, by assumption, by assumption⟩, rfl, rfl⟩, _, _, _, rfl, rfl, rfl⟩ (by assumption) (by assumption)
    | exact hret _ _ _ _ ⟨_, _, .inl ⟨by assumption, rfl, rfl⟩, _, _, _, rfl, rfl, rfl⟩ (by assumption) (News.perm (by assumption) keep13)
set_option maxRecDepth 100000 in
set_option maxHeartbeats 4000000 in
theorem told4_calls (w : World) (M0 : Mem) (ok : M0.Ok) (z : Addr) (to number begin many : Int) (t1 t2 t3 t4 t5 tv : Tok) (sv : Value) (hsv : handedIn sv = true) (hsz : M0.d.length ≤ 1000) (own : List (Addr × Obj)) (ho : OwnOff own [M0.b]) (hxb : @Ne Nat M0.x M0.b) (hdb : @Ne Nat M0.dx M0.b) :
    CallsT w 20 247 [.int 4 t1, .ref M0.x, .ref z, .int to t2, .int number t3, sv, .int begin t4, .int many t5] (M0.led own) (fun res n' => ∃ a d', ((¬ (0 ≤ to ∧ 0 ≤ many ∧ to + many ≤ M0.d.length) ∧ a = .trap ∧ d' = M0.d) ∨ ((0 ≤ to ∧ 0 ≤ many ∧ to + many ≤ M0.d.length) ∧ a = .num (numB (part M0.d to.toNat (to + many - to).toNat)) ∧ d' = M0.d)) ∧ ToldR M0 own a d' res n') := by
  obtain ⟨x, dx, b, H1, H2, H3, H4, k1, k2, k3, k4, tp, tq, most, page, pages, d⟩ := M0
  obtain ⟨p0, p1, sz, pg, mo⟩ := ok
  dsimp only at p0 p1 sz pg mo ho hxb hdb hsz
  unfold CallsT
  dsimp only [Mem.led]
  k_fill
  intro mean mg mb dp un cn cs a ccd cl A₀ h₀ L m s Q E B F X N T hk hd hu hret
  have hmo : handedIn most = true := by rcases mo with rfl | ⟨_, _, rfl⟩ <;> rfl
  refine wpC_call ?_
  k_dflt (refine' codeC_defT ?k1 ?k2 ?k3 ?k4 ?k5 ?kA ?kF ?kK ?k6 ?k7 ?k8 ?k9 ?kB ?_ ?c2 ?c3 ?c4 ?c5; (case kA => exact rfl); (case kF => exact rfl); (case kK => assumption); (case k1 => k_asm); (case k2 => k_asm); (case k3 => k_asm); (case k4 => k_asm); (case k5 => k_asm); (case k6 => k_is); (case k7 => k_is); (case k8 => ktr_room); (case k9 => exact BindsTo.of_eq rfl); (case c5 => decide); (case kB => exact locs rfl); (case c2 => exact rfl); (case c3 => exact rfl); (case c4 => exact rfl); k_whole; intro g' L' h' tk' FG' F' N' B' X' T' mn'; (try dsimp only))
  k_steps
  all_goals first
    | exact hret _ _ _ _ ⟨_, _, .inr ⟨⟨by assumption, by assumption, by assumption⟩, rfl, rfl⟩, _, _, _, rfl, ⟨_, rfl⟩, rfl⟩ (by assumption) (by assumption)
    | exact hret _ _ _ _ ⟨_, _, .inl ⟨by assumption, rfl, rfl⟩, _, _, _, rfl, rfl, rfl⟩ (by assumption) (News.perm (by assumption) keep13)
set_option maxRecDepth 100000 in
set_option maxHeartbeats 4000000 in
theorem told5_calls (w : World) (M0 : Mem) (ok : M0.Ok) (z : Addr) (to number begin many : Int) (t1 t2 t3 t4 t5 tv : Tok) (sv : Value) (hsv : handedIn sv = true) (own : List (Addr × Obj)) (ho : OwnOff own [M0.b]) (hxb : @Ne Nat M0.x M0.b) (hdb : @Ne Nat M0.dx M0.b) :
    CallsT w 20 247 [.int 5 t1, .ref M0.x, .ref z, .int to t2, .int number t3, sv, .int begin t4, .int many t5] (M0.led own) (fun res n' => ∃ a d', ((¬ (0 ≤ to ∧ 0 ≤ many ∧ to + many ≤ M0.d.length) ∧ a = .trap ∧ d' = M0.d) ∨ ((0 ≤ to ∧ 0 ≤ many ∧ to + many ≤ M0.d.length) ∧ a = .byt (part M0.d to.toNat (to + many - to).toNat) ∧ d' = M0.d)) ∧ ToldR M0 own a d' res n') := by
  obtain ⟨x, dx, b, H1, H2, H3, H4, k1, k2, k3, k4, tp, tq, most, page, pages, d⟩ := M0
  obtain ⟨p0, p1, sz, pg, mo⟩ := ok
  dsimp only at p0 p1 sz pg mo ho hxb hdb
  unfold CallsT
  dsimp only [Mem.led]
  k_fill
  intro mean mg mb dp un cn cs a ccd cl A₀ h₀ L m s Q E B F X N T hk hd hu hret
  have hmo : handedIn most = true := by rcases mo with rfl | ⟨_, _, rfl⟩ <;> rfl
  refine wpC_call ?_
  k_dflt (refine' codeC_defT ?k1 ?k2 ?k3 ?k4 ?k5 ?kA ?kF ?kK ?k6 ?k7 ?k8 ?k9 ?kB ?_ ?c2 ?c3 ?c4 ?c5; (case kA => exact rfl); (case kF => exact rfl); (case kK => assumption); (case k1 => k_asm); (case k2 => k_asm); (case k3 => k_asm); (case k4 => k_asm); (case k5 => k_asm); (case k6 => k_is); (case k7 => k_is); (case k8 => ktr_room); (case k9 => exact BindsTo.of_eq rfl); (case c5 => decide); (case kB => exact locs rfl); (case c2 => exact rfl); (case c3 => exact rfl); (case c4 => exact rfl); k_whole; intro g' L' h' tk' FG' F' N' B' X' T' mn'; (try dsimp only))
  k_steps
  all_goals first
    | exact hret _ _ _ _ ⟨_, _, .inr ⟨⟨by assumption, by assumption, by assumption⟩, rfl, rfl⟩, _, _, _, rfl, ⟨_, rfl⟩, rfl⟩ (by assumption) (by assumption)
    | exact hret _ _ _ _ ⟨_, _, .inl ⟨by assumption, rfl, rfl⟩, _, _, _, rfl, rfl, rfl⟩ (by assumption) (News.perm (by assumption) keep13)
set_option maxRecDepth 100000 in
set_option maxHeartbeats 4000000 in
theorem told6_calls (w : World) (M0 : Mem) (ok : M0.Ok) (z : Addr) (to number begin many : Int) (t1 t2 t3 t4 t5 tv : Tok) (sv : Value) (o : List UInt8) (hol : o.length ≤ 1000000) (hov : (sv = .none ∧ o = []) ∨ ∃ t, sv = .bytes o.toArray t) (own : List (Addr × Obj)) (ho : OwnOff own [M0.b]) (hxb : @Ne Nat M0.x M0.b) (hdb : @Ne Nat M0.dx M0.b) :
    CallsT w 20 247 [.int 6 t1, .ref M0.x, .ref z, .int to t2, .int number t3, sv, .int begin t4, .int many t5] (M0.led own) (fun res n' => ∃ a d', ((¬ (0 ≤ begin ∧ 0 ≤ many ∧ begin + many ≤ o.length ∧ 0 ≤ to ∧ to + many ≤ M0.d.length) ∧ a = .trap ∧ d' = M0.d) ∨ ((0 ≤ begin ∧ 0 ≤ many ∧ begin + many ≤ o.length ∧ 0 ≤ to ∧ to + many ≤ M0.d.length) ∧ a = .non ∧ d' = paste M0.d to.toNat (part o begin.toNat (begin + many - begin).toNat))) ∧ ToldR M0 own a d' res n') := by
  obtain ⟨x, dx, b, H1, H2, H3, H4, k1, k2, k3, k4, tp, tq, most, page, pages, d⟩ := M0
  obtain ⟨p0, p1, sz, pg, mo⟩ := ok
  dsimp only at p0 p1 sz pg mo ho hxb hdb
  unfold CallsT
  dsimp only [Mem.led]
  k_fill
  intro mean mg mb dp un cn cs a ccd cl A₀ h₀ L m s Q E B F X N T hk hd hu hret
  have hsv : handedIn sv = true := by rcases hov with ⟨rfl, _⟩ | ⟨_, rfl⟩ <;> rfl
  have hmo : handedIn most = true := by rcases mo with rfl | ⟨_, _, rfl⟩ <;> rfl
  refine wpC_call ?_
  k_dflt (refine' codeC_defT ?k1 ?k2 ?k3 ?k4 ?k5 ?kA ?kF ?kK ?k6 ?k7 ?k8 ?k9 ?kB ?_ ?c2 ?c3 ?c4 ?c5; (case kA => exact rfl); (case kF => exact rfl); (case kK => assumption); (case k1 => k_asm); (case k2 => k_asm); (case k3 => k_asm); (case k4 => k_asm); (case k5 => k_asm); (case k6 => k_is); (case k7 => k_is); (case k8 => ktr_room); (case k9 => exact BindsTo.of_eq rfl); (case c5 => decide); (case kB => exact locs rfl); (case c2 => exact rfl); (case c3 => exact rfl); (case c4 => exact rfl); k_whole; intro g' L' h' tk' FG' F' N' B' X' T' mn'; (try dsimp only))
  k_steps
  all_goals first
    | exact hret _ _ _ _ ⟨_, _, .inr ⟨⟨by assumption, by assumption, by assumption, by assumption, by assumption⟩, rfl, rfl⟩, _, _, _, rfl, rfl, rfl⟩ (by assumption) (by assumption)
    | exact hret _ _ _ _ ⟨_, _, .inl ⟨by assumption, rfl, rfl⟩, _, _, _, rfl, rfl, rfl⟩ (by assumption) (News.perm (by assumption) keep13)
set_option maxRecDepth 100000 in
set_option maxHeartbeats 4000000 in
theorem told7_calls (w : World) (M0 : Mem) (ok : M0.Ok) (z : Addr) (to number begin many : Int) (t1 t2 t3 t4 t5 tv : Tok) (sv : Value) (hsv : handedIn sv = true) (own : List (Addr × Obj)) (ho : OwnOff own [M0.b]) (hxb : @Ne Nat M0.x M0.b) (hdb : @Ne Nat M0.dx M0.b) :
    CallsT w 20 247 [.int 7 t1, .ref M0.x, .ref z, .int to t2, .int number t3, sv, .int begin t4, .int many t5] (M0.led own) (fun res n' => ∃ a d', ((GrowNot ((M0.d.length : Int).fdiv M0.page) many M0.pages M0.most ∧ a = .num 4294967295 ∧ d' = M0.d) ∨ (¬ GrowNot ((M0.d.length : Int).fdiv M0.page) many M0.pages M0.most ∧ a = .num ((M0.d.length : Int).fdiv M0.page) ∧ d' = M0.d ++ List.replicate (many * M0.page).toNat 0)) ∧ ToldR M0 own a d' res n') := by
  obtain ⟨x, dx, b, H1, H2, H3, H4, k1, k2, k3, k4, tp, tq, most, page, pages, d⟩ := M0
  obtain ⟨p0, p1, sz, pg, mo⟩ := ok
  dsimp only at p0 p1 sz pg mo ho hxb hdb
  unfold CallsT
  dsimp only [Mem.led]
  k_fill
  intro mean mg mb dp un cn cs a ccd cl A₀ h₀ L m s Q E B F X N T hk hd hu hret
  have hmo : handedIn most = true := by rcases mo with rfl | ⟨_, _, rfl⟩ <;> rfl
  refine wpC_call ?_
  k_dflt (refine' codeC_defT ?k1 ?k2 ?k3 ?k4 ?k5 ?kA ?kF ?kK ?k6 ?k7 ?k8 ?k9 ?kB ?_ ?c2 ?c3 ?c4 ?c5; (case kA => exact rfl); (case kF => exact rfl); (case kK => assumption); (case k1 => k_asm); (case k2 => k_asm); (case k3 => k_asm); (case k4 => k_asm); (case k5 => k_asm); (case k6 => k_is); (case k7 => k_is); (case k8 => ktr_room); (case k9 => exact BindsTo.of_eq rfl); (case c5 => decide); (case kB => exact locs rfl); (case c2 => exact rfl); (case c3 => exact rfl); (case c4 => exact rfl); k_whole; intro g' L' h' tk' FG' F' N' B' X' T' mn'; (try dsimp only))
  k_steps
  all_goals first
    | exact hret _ _ _ _ ⟨_, _, .inr ⟨by assumption, rfl, rfl⟩, _, _, _, rfl, ⟨_, rfl⟩, rfl⟩ (by assumption) (by assumption)
    | exact hret _ _ _ _ ⟨_, _, .inl ⟨by assumption, rfl, rfl⟩, _, _, _, rfl, ⟨_, rfl⟩, rfl⟩ (by assumption) (by assumption)
end Mine
end
section
open PySem PySem.W PyProof.Rows
set_option Elab.async false
namespace Mine
/-- two plain values that are equal, whatever their marks -/
inductive SameV : Value → Value → Prop
  | non : SameV .none .none
  | int (n : Int) (t u : Tok) : SameV (.int n t) (.int n u)
  | str (x : Str) (t u : Tok) : SameV (.str x t) (.str x u)
  | byt (d : Array UInt8) (t u : Tok) : SameV (.bytes d t) (.bytes d u)
section
variable {A : Around} {s : Shared} {a b : Value}
theorem eqAt_bytes (d : Array UInt8) (t u : Tok) : PySem.SeqAt.EqAt A s (.bytes d t) (.bytes d u) true := fun prog w E Q h => by
  unfold eqBool
  refine wpAny_holding ?_
  refine wpAny_ite_split (fun _ => ?_) (fun _ => ?_)
  · exact wpAny_bind (wpAny_rule (wpAny_pure h))
  · refine wpAny_bind (PySem.W.eq_bytes ?_)
    rw [show (d.toList == d.toList) = true from beq_self_eq_true _]
    exact wpAny_truthy_bool h
theorem SameV.eqAt (h : SameV a b) : PySem.SeqAt.EqAt A s a b true := by
  cases h with
  | non => exact PySem.SeqAt.EqAt.same _
  | int n t u =>
    have := PySem.SeqAt.EqAt.int_int (A := A) (s := s) n t n u
    rwa [show (n == n) = true from beq_self_eq_true _] at this
  | str x t u =>
    have := PySem.SeqAt.EqAt.str_str (A := A) (s := s) x t x u
    rwa [show (x == x) = true from beq_self_eq_true _] at this
  | byt d t u => exact eqAt_bytes d t u
end
section
variable {prog : Program} {w : World} {A : Around} {E : Value → Shared → Prop} {s : Shared} {h₀ : Heap} {L l l' : Addr} {news : List (Addr × Obj)} {a1 a2 b1 b2 : Value} {Q : Value → Shared → Prop}
theorem ne_tup2 (N : News h₀ L s.heap news) (m1 : (l, tupO [a1, a2]) ∈ news) (m2 : (l', tupO [b1, b2]) ∈ news) (h1 : SameV a1 b1) (h2 : SameV a2 b2) (hu : A.units < cLine) (h : Q (.bool false) s) :
    wpAny (model prog w) A (compareOp .NotEq (.ref l) (.ref l')) Q E s := by
  refine PySem.SeqAt.RcNeAt.tuples (e := fun _ => true) (News.isTup N m1) (News.isTup N m2) hu (fun j j1 j2 => ?_) prog w E Q ?_
  · match j, j1, j2 with
    | 0, _, _ => exact h1.eqAt
    | 1, _, _ => exact h2.eqAt
  · exact h
end
theorem toU_oct (d : List UInt8) : toU (octInts d) = d := by
  simp only [toU, octInts, List.map_map]
  conv => rhs; rw [← List.map_id d]
  apply List.map_congr_left
  intro c _
  simp
theorem octInts_length (d : List UInt8) : (octInts d).length = d.length := by simp [octInts]
theorem octInts_oct (d : List UInt8) : ∀ n ∈ octInts d, 0 ≤ n ∧ n < 256 := by
  intro n hn
  obtain ⟨c, _, rfl⟩ := List.mem_map.mp hn
  have := c.toNat_lt
  omega
theorem news_drop3 {h₀ h : Heap} {L : Addr} {a b c : Addr × Obj} {own : List (Addr × Obj)} (N : News h₀ L h (a :: b :: c :: own)) : News h₀ L h own := fun p hp => N p (.tail _ (.tail _ (.tail _ hp)))
theorem news_drop13 {h₀ h : Heap} {L : Addr} {p a b c : Addr × Obj} {own : List (Addr × Obj)} (N : News h₀ L h (p :: a :: b :: c :: own)) : News h₀ L h (p :: own) := fun q hq => by
  rcases List.mem_cons.mp hq with e | hq
  · rw [e]; exact N _ (.head _)
  · exact N _ (.tail _ (.tail _ (.tail _ (.tail _ hq))))
theorem news_dup0 {h₀ h : Heap} {L : Addr} {x : Addr × Obj} {own : List (Addr × Obj)} (N : News h₀ L h own) (hm : x ∈ own) : News h₀ L h (x :: own) := fun p hp => (List.mem_cons.mp hp).elim (fun e => e ▸ N x hm) (N p)
theorem news_dup3 {h₀ h : Heap} {L : Addr} {x y z : Addr × Obj} {own : List (Addr × Obj)} (N : News h₀ L h own) (hx : x ∈ own) (hy : y ∈ own) (hz : z ∈ own) : News h₀ L h (x :: y :: z :: own) :=
  news_dup0 (news_dup0 (news_dup0 N hz) (.tail _ hy)) (.tail _ (.tail _ hx))
end Mine
end
section
open PySem PySem.W PyProof.Rows
set_option Elab.async false
namespace Mine
theorem plain_Told8 : True := by
  w_top off
  k_with_none
  trivial
theorem part_len_le (d : List UInt8) (i n : Nat) : (part d i n).length ≤ d.length := by simp [part]; omega
theorem keep16 {a c d x y z : Addr × Obj} {news : List (Addr × Obj)} : ∀ p ∈ a :: news, p ∈ a :: c :: d :: x :: y :: z :: news := by
  intro p hp
  rcases List.mem_cons.mp hp with rfl | hp
  · exact .head _
  · exact .tail _ (.tail _ (.tail _ (.tail _ (.tail _ (.tail _ hp)))))
theorem lines_Told8_0 : True := by
  w_top off
  k_with_none
  k_with "mine call builtin:len" => (k_here; (with_reducible show wpAny _ _ (call (Value.builtin "len") [Value.bytes _ _]) _ _ _); refine' len_bytesL ?z ?_; (case z => omega))
  k_with "mine wpC" => (k_here; (with_reducible show wpC _ _ (execs (_ :: _) _) _ _ _); with_reducible refine wpC_execs_consA ?_)
  k_with "mine wpC" => (k_here; (with_reducible show wpC _ _ (execs [] _) _ _ _); with_reducible refine wpC_execs_nil ?_)
  k_with "mine wpC" => (k_here; (with_reducible show wpC _ _ (execs (Stmt.Assign [Expr.Subscript _ _ _] _ _ :: _) _) _ _ _); k_dflt (refine wpC_execs_cons (wpC_Assign_Subscript ?_ (by with_unfolding_all rfl))))
  k_with "mine wpC" => (k_here; (with_reducible show wpC _ _ (execs (Stmt.Expr (Expr.Call (Expr.Attribute (Expr.Attribute _ _ _) _ _) _ _ _) _ :: _) _) _ _ _); k_dflt (refine wpC_execs_cons (wpC_Expr ?_ (by with_unfolding_all rfl) (by with_unfolding_all rfl))))
  k_with "mine wpC" => (k_here; (with_reducible show wpC _ _ (execs (Stmt.Assign [Expr.Attribute _ _ _] (Expr.Call _ _ _ _) _ :: _) _) _ _ _); k_dflt (refine wpC_execs_cons (wpC_Assign_Attribute ?_ (by with_unfolding_all rfl))))
  k_with "mine wpC" => (k_here; (with_reducible show wpC _ _ (eval (Expr.Call (Expr.Attribute _ _ _) _ _ _) _) _ _ _); k_dflt (refine wpC_Call_Attr ?_ (by with_unfolding_all rfl)))
  k_with "mine wpC" => (k_here; (with_reducible show wpC _ _ (eval (Expr.Call (Expr.Name _ _) _ _ _) _) _ _ _); k_dflt (refine wpC_Call_Name ?_))
  k_with "mine wpC" => (k_here; (with_reducible show wpC _ _ (callWith _ (Value.builtin _) _ _ _) _ _ _); k_dflt (refine wpC_callWith_mach (by with_unfolding_all rfl) ?_ (by with_unfolding_all rfl) (by with_unfolding_all rfl)))
  k_with "mine wpC" => (k_here; (with_reducible show wpC _ _ (setItem (Value.ref _) (Value.ref _) (Value.bytes _ _)) _ _ _); k_dflt (refine' setslice_bytesK ?g ?F ?N ?U ?a ?b ?c ?d ?z ?_; (case g => exact rfl); (case F => k_asm); (case N => k_asm); (case U => k_upd); (case z => assumption); (case a => omega); (case b => omega); (case c => omega); (case d => first | exact partD (by assumption) (by assumption) (by assumption) | omega | (simp only [List.length_map, octI_length]; omega) | ((show ((fillU _ _).length : Int) = _); rw [fillU_length]; omega) | (rw [part_length (by omega)]; omega)); k_whole; intro h' F' N'))
  k_with "mine k_handed" => assumption
  k_with "mine wpC" => (k_here; (with_reducible show wpC _ _ (execs (Stmt.Try _ _ _ _ _ :: _) _) _ _ _); k_dflt (refine wpC_execs_cons (wpC_Try_except ?_)))
  k_with "mine wpC" => (k_here; (with_reducible show wpC _ _ (execs (Stmt.If _ _ _ _ :: _) _) _ _ _); k_dflt (refine wpC_execs_cons (wpC_If ?_)))
  k_with "mine wpC" => (k_here; (with_reducible show wpC _ _ (execs (Stmt.Return (some (Expr.Tuple _ _ _)) _ :: _) _) _ _ _); k_dflt (refine wpC_execs_cons (wpC_Return_some (wpC_Tuple2 ?_ (by with_unfolding_all rfl)))))
  k_with "mine wpC" => (k_here; (with_reducible show wpC _ _ (callWith _ (Value.ref _) _ _ _) _ _ _); k_dflt (refine' wpC_callWith_K ?X ?k ?_ (by with_unfolding_all rfl) (by with_unfolding_all rfl); (case X => k_asm); (case k => k_is)))
  k_with "mine noteFrame ref" => (k_here; k_dflt (refine' caught_M ?R ?F ?K ?m ?f ?s ?XB ?TB (trap_cls _) ?e ?_; (case R => assumption); (case F => assumption); (case K => assumption); (case m => assumption); (case f => exact rfl); (case s => assumption); (case XB => assumption); (case TB => assumption); (case e => k_is)); k_whole; intro h' g' oe' tk' T' F' N' oc' ox' on' B' X' T2' M'; (try dsimp only))
  k_with "mine getAttr ref" => (k_here; k_dflt (refine' why_get ?F ?X ?N ?m ?d ?c ?x ?n ?_; (case F => k_asm); (case X => k_asm); (case N => k_asm); (case m => k_dflt k_mem); (case d => k_dflt k_mem); (case c => exact .inl (by assumption)); (case x => assumption); (case n => assumption)); k_whole)
  k_with "mine wpC" => (k_here; (with_reducible show wpC _ _ (call (Value.ref 154) [Value.ref _, Value.int _ _, Value.bytes _ _]) _ _ _); k_dflt (refine' CallsC.use (write_calls _ ⟨_, _, _, _, _, _, _, _, _, _, _, _, _, _, _, _, _⟩ ?ok _ _ ?z1 _ _ _ ?o1 ?o2 ?o3) ?B ?F ?X ?N ?T ?k ?d ?u ?_ ?_); (case B => k_asm); (case F => k_asm); (case X => k_asm); (case N => k_dflt (k_asm)); (case T => k_asm); (case k => k_dflt (exact rfl)); (case d => ktr_room); (case u => ktr_units); (case ok => exact ⟨by assumption, by assumption, by assumption, by assumption, by assumption⟩); (case z1 => exact Nat.le_trans (part_len_le _ _ _) (by assumption)); (case o1 => assumption); (case o2 => assumption); (case o3 => assumption); all_goals k_whole; all_goals (first | (intro e C why dx H k tw h' tk' hX R U; obtain ⟨hC, hW, nb⟩ := hX; subst hC; subst hW; obtain ⟨gU, FU, sU⟩ := U) | (intro r n' h' tk' hP F' N'; obtain ⟨hr, hn, b0, b1⟩ := hP; subst hr; subst hn)))
  k_with "mine call ref" => (k_here; (with_reducible show wpAny _ _ (call (Value.ref 147) [Value.ref _, Value.int _ _, Value.int _ _]) _ _ _); k_dflt (refine' Calls.use (read_calls _ ⟨_, _, _, _, _, _, _, _, _, _, _, _, _, _, _, _, _⟩ ?ok _ _ _ _ _) ?B ?F ?X ?N ?T ?k ?d ?u ?_ ?_); (case B => k_asm); (case F => k_asm); (case X => k_asm); (case N => k_dflt (exact news_dup3 (by k_asm) (by k_mem) (by k_mem) (by k_mem))); (case T => k_asm); (case k => k_dflt (exact rfl)); (case d => ktr_room); (case u => ktr_units); (case ok => exact ⟨by assumption, by assumption, by assumption, by assumption, by assumption⟩); all_goals k_whole; all_goals (first | (intro e C why dx H k tw h' tk' hX R U; obtain ⟨hC, hW, nb⟩ := hX; subst hC; subst hW; obtain ⟨gU, FU, sU⟩ := U) | (intro r n' h' tk' hP F' N'; obtain ⟨⟨_, hr⟩, hn, b0, b1, b2⟩ := hP; subst hr; subst hn; (try dsimp only [Mem.led] at N'); replace N' := news_drop3 N'; dsimp only at b0 b1 b2; (try dsimp only))))
  trivial
set_option maxRecDepth 100000 in
set_option maxHeartbeats 4000000 in
theorem told8_calls (w : World) (M0 M1 : Mem) (ok : M0.Ok) (ok' : M1.Ok) (to number begin many : Int) (t1 t2 t3 t4 t5 : Tok) (sv : Value) (hsv : handedIn sv = true) (own : List (Addr × Obj)) (ho : OwnOff (M1.led own) [M0.b]) (hxb : @Ne Nat M0.x M0.b) (hdb : @Ne Nat M0.dx M0.b) :
    CallsT w 20 247 [.int 8 t1, .ref M0.x, .ref M1.x, .int to t2, .int number t3, sv, .int begin t4, .int many t5] (M0.led (M1.led own)) (fun res n' => ∃ a d', ((¬ (0 ≤ begin ∧ 0 ≤ many ∧ begin + many ≤ M1.d.length ∧ 0 ≤ to ∧ to + (part M1.d begin.toNat (begin + many - begin).toNat).length ≤ M0.d.length) ∧ a = .trap ∧ d' = M0.d) ∨ ((0 ≤ begin ∧ 0 ≤ many ∧ begin + many ≤ M1.d.length ∧ 0 ≤ to ∧ to + (part M1.d begin.toNat (begin + many - begin).toNat).length ≤ M0.d.length) ∧ a = .non ∧ d' = paste M0.d to.toNat (part M1.d begin.toNat (begin + many - begin).toNat))) ∧ ToldR M0 (M1.led own) a d' res n') := by
  obtain ⟨x, dx, b, H1, H2, H3, H4, k1, k2, k3, k4, tp, tq, most, page, pages, d⟩ := M0
  obtain ⟨x', dx', b', H1', H2', H3', H4', k1', k2', k3', k4', tp', tq', most', page', pages', d'⟩ := M1
  obtain ⟨p0, p1, sz, pg, mo⟩ := ok
  obtain ⟨p0', p1', sz', pg', mo'⟩ := ok'
  dsimp only [Mem.led] at p0 p1 sz pg mo ho hxb hdb p0' p1' sz' pg' mo'
  unfold CallsT
  dsimp only [Mem.led]
  k_fill
  intro mean mg mb dp un cn cs a ccd cl A₀ h₀ L m s Q E B F X N T hk hd hu hret
  have hmo : handedIn most = true := by rcases mo with rfl | ⟨_, _, rfl⟩ <;> rfl
  have hmo' : handedIn most' = true := by rcases mo' with rfl | ⟨_, _, rfl⟩ <;> rfl
  refine wpC_call ?_
  k_dflt (refine' codeC_defT ?k1 ?k2 ?k3 ?k4 ?k5 ?kA ?kF ?kK ?k6 ?k7 ?k8 ?k9 ?kB ?_ ?c2 ?c3 ?c4 ?c5; (case kA => exact rfl); (case kF => exact rfl); (case kK => assumption); (case k1 => k_asm); (case k2 => k_asm); (case k3 => k_asm); (case k4 => k_asm); (case k5 => k_asm); (case k6 => k_is); (case k7 => k_is); (case k8 => ktr_room); (case k9 => exact BindsTo.of_eq rfl); (case c5 => decide); (case kB => exact locs rfl); (case c2 => exact rfl); (case c3 => exact rfl); (case c4 => exact rfl); k_whole; intro g' L' h' tk' FG' F' N' B' X' T' mn'; (try dsimp only))
  k_steps
  all_goals first
    | exact hret _ _ _ _ ⟨_, _, .inr ⟨⟨by assumption, by assumption, by assumption, by assumption, by assumption⟩, rfl, rfl⟩, _, _, _, rfl, rfl, rfl⟩ (by assumption) (by assumption)
    | exact hret _ _ _ _ ⟨_, _, .inl ⟨fun z => by rename ¬ _ => nb; exact nb ⟨z.1, z.2.1, z.2.2.1⟩, rfl, rfl⟩, _, _, _, rfl, rfl, rfl⟩ (by assumption) (News.perm (by assumption) keep16)
    | exact hret _ _ _ _ ⟨_, _, .inl ⟨fun z => by rename ¬ _ => nb; exact nb ⟨z.2.2.2.1, z.2.2.2.2⟩, rfl, rfl⟩, _, _, _, rfl, rfl, rfl⟩ (by assumption) (News.perm (by assumption) keep13)
end Mine
end
section
open PySem PySem.W PyProof.Rows
set_option Elab.async false
namespace Mine
theorem plain_SameL : True := by
  w_top off
  k_with_none
  trivial
section
variable {prog : Program} {w : World} {A : Around} {E : Value → Shared → Prop} {s : Shared} {h₀ : Heap} {L D : Addr} {m : Str → Option Value} {news : List (Addr × Obj)} {vs : List Value} {k : Nat} {d : List UInt8} {Q : Value → Shared → Prop}
theorem bytes_octK (hh : A.handled = none) (F : Fr h₀ L s.heap m) (N : News h₀ L s.heap news) (hm : (D, lstO vs k) ∈ news) (hi : IntsAre vs (octInts d)) (hz : d.length ≤ 1000000)
    (h : ∀ h' t' k, Fr h₀ L h' m → News h₀ L h' news → Q (.bytes d.toArray t') { s with heap := h', toks := k }) : wpAny (model prog w) A (call (.type "bytes") [.ref D]) Q E s :=
  call_bytes_ints (N.isList hm) hi (octInts_oct d) (by rw [hi.length, sizeLine_eq, octInts_length]; omega) hh fun h' t' k hk => by
    have := h h' t' k (F.keeps hk) (N.grown hk)
    rwa [byteArr_toU, toU_oct]
theorem len_octK (N : News h₀ L s.heap news) (hm : (D, lstO vs k) ∈ news) (hi : IntsAre vs (octInts d)) (hz : d.length ≤ 1000000) (h : Q (.int (d.length : Int) (s.toks + 1)) { s with toks := s.toks + 1 + 1 }) :
    wpAny (model prog w) A (call (.builtin "len") [.ref D]) Q E s := by
  have hl : s.heap.IsList D vs.toArray := News.isList N hm
  have e : vs.toArray.size = d.length := by rw [List.size_toArray, hi.length, octInts_length]
  refine Calls.call_len_list hl (by omega) ?_
  rw [e]
  exact h
theorem ne_int_same {a : Int} {t u : Tok} (h : Q (.bool false) s) : wpAny (model prog w) A (compareOp .NotEq (.int a t) (.int a u)) Q E s :=
  PyProof.Rows.ne_int (by rw [show (a != a) = false by simp]; exact h)
end
theorem deep_units {dp un n : Nat} {gd : Option (List Code)} {cn : Str} {cs : Scope} {L a : Addr} {ccd : Value} {cl : List (Str × Addr)} {outer : List Env} {env : Env} (h : un + 10 * (n + 1) < cLine) : ((ktrTop dp un gd cn cs L a ccd cl outer).deeper env).units < cLine := by
  refine Nat.lt_of_le_of_lt ?_ h
  simp only [units_deeper, ktrTop]
  omega
theorem allLt_at {d : Nat} : ∀ {l : List (Addr × Obj)}, AllLt d l → ∀ p ∈ l, @LT.lt Nat _ p.1 d
  | [], _, _, h => nomatch h
  | _ :: _, x, p, h => by
    rcases List.mem_cons.mp h with e | h
    · rw [e]; exact x.1
    · exact allLt_at x.2 p h
theorem unrEnd_own {h₀ h0 h' : Heap} {L I : Addr} {it : Obj} {rest : (Str → Option Value) → List (Addr × Obj) → Prop} {s₁ : Shared} {tk : Nat} {m' : Str → Option Value} {all led : List (Addr × Obj)} (F : Fr h₀ L h' m') (N : News h₀ L h' all) (_N0 : News h₀ L h0 ((I, it) :: led))
    (hI : (I, it) ∈ all) (sub : ∀ p ∈ led, p ∈ all) (off : ∀ p ∈ led, p.1 < I) (r : rest m' led) : UnrEnd h₀ L s₁ I it rest { s₁ with heap := h', toks := tk } :=
  UnrEnd.intro F N led (fun p hp => (List.mem_cons.mp hp).elim (fun e => e ▸ hI) (sub p)) (fun p hp => Nat.ne_of_lt (off p hp)) r
theorem sameMost {m : Value} (h : m = .none ∨ ∃ k t, m = .int k t) : SameV m m := by
  rcases h with rfl | ⟨k, t, rfl⟩
  · exact .non
  · exact .int _ _ _
theorem lines_SameL_0 : True := by
  w_top off
  k_with_none
  k_with "mine UnrEnd" => (k_dflt (refine' unrEnd_own ?F ?N ?N0 ?I ?sub ?off ?_); (case F => k_dflt assumption); (case N => k_dflt k_asm); (case N0 => assumption); (case I => k_dflt k_mem); (case sub => (intro p hp; repeat (first | exact hp | refine List.mem_cons_of_mem _ ?_))); (case off => exact allLt_at (by k_dflt assumption)); k_whole)
  k_with "mine k_handed" => assumption
  k_with "mine call builtin:len" => (k_here; (with_reducible show wpAny _ _ (call (Value.builtin "len") [Value.ref _]) _ _ _); k_dflt (refine' len_octK ?N ?m ?i ?z ?_); (case N => k_asm); (case m => k_dflt k_mem); (case i => assumption); (case z => assumption); k_whole)
  k_with "mine call type:bytes" => (k_here; (with_reducible show wpAny _ _ (call (Value.type "bytes") [Value.ref _]) _ _ _); k_dflt (refine' bytes_octK ?hh ?F ?N ?m ?i ?z ?_); (case hh => k_dflt (exact rfl)); (case F => k_asm); (case N => k_asm); (case m => k_dflt k_mem); (case i => assumption); (case z => assumption); k_whole; intro h' t' k' F' N')
  k_with "mine compareOp NotEq int int" => (k_here; (with_reducible refine ne_int_same ?_))
  k_with "mine compareOp NotEq ref ref" => (k_here; (with_reducible show wpAny _ _ (compareOp CmpOp.NotEq (Value.ref _) (Value.ref _)) _ _ _); k_dflt (refine' ne_tup2 ?N ?m1 ?m2 ?h1 ?h2 ?u ?_); (case N => k_asm); (case m1 => k_dflt k_mem); (case m2 => k_dflt k_mem); (case h1 => first | exact SameV.int _ _ _ | exact SameV.byt _ _ _ | exact sameMost (by assumption)); (case h2 => first | exact SameV.int _ _ _ | exact SameV.byt _ _ _ | exact sameMost (by assumption)); (case u => exact deep_units (n := 15) (by assumption)); k_whole)
  k_with "mine call ref" => (k_here; k_dflt (show wpAny _ _ (call (Value.ref 105) [Value.ref _]) _ _ _); k_dflt (refine' Calls.use (size_calls _ ⟨_, _, _, _, _, _, _, _, _, _, _, _, _, _, _, _, _⟩ ?ok _) ?B ?F ?X ?N ?T ?k ?d ?u ?_ ?_); (case B => k_asm); (case F => k_asm); (case X => k_asm); (case N => exact news_dup3 (by k_asm) (by k_mem) (by k_mem) (by k_mem)); (case T => k_asm); (case k => k_dflt (exact rfl)); (case d => ktr_room); (case u => ktr_units); (case ok => exact ⟨by assumption, by assumption, by assumption, by assumption, by assumption⟩); all_goals k_whole; all_goals (first | (intro e C why dx H k tw h' tk' hX R U; exact hX.elim) | (intro r n' h' tk' hP F' N'; obtain ⟨⟨_, hr⟩, hn⟩ := hP; subst hr; subst hn; (try dsimp only [Mem.led] at N'); replace N' := news_drop3 N'; (try dsimp only))))
  k_with "mine call ref" => (k_here; k_dflt (show wpAny _ _ (call (Value.ref 182) [Value.ref _]) _ _ _); k_dflt (refine' Calls.use (plain_calls _ ⟨_, _, _, _, _, _, _, _, _, _, _, _, _, _, _, _, _⟩ ?ok _) ?B ?F ?X ?N ?T ?k ?d ?u ?_ ?_); (case B => k_asm); (case F => k_asm); (case X => k_asm); (case N => exact news_dup3 (by k_asm) (by k_mem) (by k_mem) (by k_mem)); (case T => k_asm); (case k => k_dflt (exact rfl)); (case d => ktr_room); (case u => ktr_units); (case ok => exact ⟨by assumption, by assumption, by assumption, by assumption, by assumption⟩); all_goals k_whole; all_goals (first | (intro e C why dx H k tw h' tk' hX R U; exact hX.elim) | (intro r n' h' tk' hP F' N'; obtain ⟨_, _, hr, hn⟩ := hP; subst hr; subst hn; (try dsimp only [Mem.led] at N'); replace N' := news_drop13 N'; (try dsimp only))))
  k_with "mine call ref" => (k_here; k_dflt (show wpAny _ _ (call (Value.ref 112) [Value.ref _]) _ _ _); k_dflt (refine' Calls.use (kind_calls _ ⟨_, _, _, _, _, _, _, _, _, _, _, _, _, _, _, _, _⟩ ?ok _) ?B ?F ?X ?N ?T ?k ?d ?u ?_ ?_); (case B => k_asm); (case F => k_asm); (case X => k_asm); (case N => exact news_dup3 (by k_asm) (by k_mem) (by k_mem) (by k_mem)); (case T => k_asm); (case k => k_dflt (exact rfl)); (case d => ktr_room); (case u => ktr_units); (case ok => exact ⟨by assumption, by assumption, by assumption, by assumption, by assumption⟩); all_goals k_whole; all_goals (first | (intro e C why dx H k tw h' tk' hX R U; exact hX.elim) | (intro r n' h' tk' hP F' N'; obtain ⟨_, _, hr, hn⟩ := hP; subst hr; subst hn; (try dsimp only [Mem.led] at N'); replace N' := news_drop13 N'; (try dsimp only))))
  k_with "mine k_all" => (rename ∀ p : Addr × Obj, p ∈ _ → p.1 < _ => lz; intro p hp; refine' Nat.ne_of_lt (Nat.lt_of_lt_of_le (lz p ?_) ?_); (first | exact hp | exact .tail _ hp | exact .tail _ (.tail _ hp) | exact .tail _ (.tail _ (.tail _ hp)) | exact .tail _ (.tail _ (.tail _ (.tail _ hp)))); (first | exact Nat.le_refl _ | (refine' neLe ?_; omega)))
  trivial
set_option maxRecDepth 100000 in
set_option maxHeartbeats 8000000 in
theorem same_calls (w : World) (M0 M1 : Mem) (ok0 : M0.Ok) (ok1 : M1.Ok) (MA RA ZA r0 r1 : Addr) (vs0 vs1 : List Value) (kM kR kZ k0 k1 : Nat) (page : Int) (t : Tok) (hi0 : IntsAre vs0 (octInts M0.d)) (hi1 : IntsAre vs1 (octInts M1.d)) (hp0 : M0.page = page) (hp1 : M1.page = page) (own : List (Addr × Obj)) :
    Calls w 16 266 [.ref MA, .ref RA, .ref ZA, .int page t] ((MA, lstO [.ref M0.x, .ref M1.x] kM) :: (RA, lstO [.ref r0, .ref r1] kR) :: (ZA, lstO [M0.most, M1.most] kZ) :: (r0, lstO vs0 k0) :: (r1, lstO vs1 k1) :: M0.led (M1.led own)) (fun res n' => res = .bool true ∧ n' = own) NoX := by
  obtain ⟨x, dx, b, H1, H2, H3, H4, k1, k2, k3, k4, tp, tq, most, page, pages, d⟩ := M0
  obtain ⟨x', dx', b', H1', H2', H3', H4', k1', k2', k3', k4', tp', tq', most', page', pages', d'⟩ := M1
  obtain ⟨p0, p1, sz, pg, mo⟩ := ok0
  obtain ⟨p0', p1', sz', pg', mo'⟩ := ok1
  dsimp only at p0 p1 sz pg mo p0' p1' sz' pg' mo' hi0 hi1 hp0 hp1
  subst hp0
  subst hp1
  have hmo : handedIn most = true := by rcases mo with rfl | ⟨_, _, rfl⟩ <;> rfl
  have hmo' : handedIn most' = true := by rcases mo' with rfl | ⟨_, _, rfl⟩ <;> rfl
  dsimp only [Mem.led]
  unfold Calls
  k_fill
  intro mean mg mb dp un gd cn cs a ccd cl outer A₀ base h₀ L m s Q E B F X N T hk hd hu hret hraise
  refine wpAny_call ?_
  k_dflt cell_enter
  k_steps
  all_goals exact hret _ _ _ _ ⟨rfl, rfl⟩ (by assumption) (News.perm (by assumption) (by intro p hp; repeat (first | exact hp | refine List.mem_cons_of_mem _ ?_)))
end Mine
end
section
open PySem PySem.W PyProof.Rows PySem.Calls
set_option Elab.async false
namespace Mine
set_option maxRecDepth 100000
section
variable {prog : Program} {w : World} {A : Around} {K : Frag} {C : Addr} {R : Result → Shared → Prop} {h : Heap} {g : Array GenState} {d : Drawn} {t : Nat} {os : OsState}
theorem makeC_core {rest : List Value} {init : Value} (Y : Makes (model prog w) h C) (hi : Looks (model prog w) h (typeLookup (.ref C) "__init__") (some init))
    (hb : ∀ self, Looks (model prog w) h (bindSpecial init self) (init, [self])) (hne : (some init != some (Value.builtin "object.__init__")) = true)
    (hq : codeC (model prog w) (A.under (.builtin "type.__call__" ⟨.ref C :: rest, []⟩)) (.call init ⟨.ref (h.objs.size + 1) :: rest, []⟩) (InitBack (h.objs.size + 1) R) ⟨(h.push emptyDict).push (instObj C h.objs.size), g, d, t, os⟩) :
    codeC (model prog w) A (.call (.ref C) ⟨rest, []⟩) R ⟨h, g, d, t, os⟩ := by
  have Y' := Y
  obtain ⟨⟨oc, od, cd, sl, hC, e1, e2, e4⟩, made, base, self, top, call, typ⟩ := Y
  refine codeC_of_treeA ?_
  show wpAny _ _ (callAny (.ref C) _) _ _ _
  refine nd_load hC ?_
  show wpAny _ _ (callAny.viaDunder (.ref C) _) _ _ _
  unfold callAny.viaDunder
  refine wpAny_bind (call.at ?_)
  dsimp only
  rw [tc_bind]
  refine wpAny_bind (wpAny_pure (wpAny_bind (wpAny_pure ?_)))
  refine wpAny_pure (a := Fin.again (.call (.builtin "type.__call__") ⟨.ref C :: rest, []⟩)) (And.intro rfl ?_)
  refine codeC_call_builtin_at (Code.quiet_builtin _ (by decide +kernel)) (clean_type_call _) entry_typeCall (check_slot tc_kind tc_split typ (tc_args _ _ _) ?_)
  have hm : Looks (model prog w) h (mroOf (.ref C)) cd.mro := ((Looks.ld (part := none) hC).andThen .now).andThen .now
  unfold Builtin.«type.__call__»
  dsimp only
  refine wpC_ifn rfl ?_
  refine wpC_bindA (hm.at ?_)
  refine wpC_ifn e4 ?_
  refine wpC_bindA (made.at ?_)
  dsimp only
  refine wpC_bindA (wpAny_of_eq (a := Value.builtin "object.__new__") rfl ?_)
  refine wpC_bindA (wpAny_holding (wpAny_call (new_K Y' hi (.inl hne) ?_)))
  dsimp only
  have k : ∀ b o, h.get? b = some o → ((h.push emptyDict).push (instObj C h.objs.size)).get? b = some o := fun b o e => Heap.get?_push_of_some _ (Heap.get?_push_of_some _ e)
  have hx : ((h.push emptyDict).push (instObj C h.objs.size)).get? (h.objs.size + 1) = some (instObj C h.objs.size) := by heap_get
  have t1 : Looks (model prog w) ((h.push emptyDict).push (instObj C h.objs.size)) (typeOf (.ref (h.objs.size + 1))) (.ref C) := (Looks.ld hx).andThen .now
  have s1 := self.keeps k
  have i1 := hi.keeps k
  have b1 := (hb (.ref (h.objs.size + 1))).keeps k
  refine wpC_bindA (m := isInstance (.ref (h.objs.size + 1)) (.ref C)) ((show Looks (model prog w) _ (isInstance (.ref (h.objs.size + 1)) (.ref C)) true from Looks.andThen (f := fun t => isSubtype t (.ref C)) t1 s1).at ?_)
  refine wpC_ifn rfl ?_
  refine wpC_bind (wpC_holding ?_)
  unfold callSpecial?
  refine wpC_bindA (m := specialOf (.ref (h.objs.size + 1)) "__init__") ((show Looks (model prog w) _ (specialOf (.ref (h.objs.size + 1)) "__init__") (some init) from Looks.andThen (f := fun t => typeLookup t "__init__") t1 i1).at ?_)
  dsimp only
  refine wpC_holding (wpC_bindA (b1.at ?_))
  dsimp only
  refine wpC_bind (wpC_call (codeC_mono hq fun r s' z => ?_))
  rcases r with e | (v | _ | _ | _) <;> first | exact z | exact z.elim | skip
  obtain ⟨rfl, z⟩ := z
  refine wpC_pure ?_
  dsimp only
  exact wpC_ifn (by decide) (wpC_pure z)
end
section
variable {prog : Program} {w : World} {A : Around} {E : Value → Shared → Prop} {K : Frag} {C : Addr} {s : Shared} {h₀ : Heap} {L : Addr} {m : Str → Option Value} {news : List (Addr × Obj)} {Q : Value → Shared → Prop}
theorem callC_cls {rest : List Value} {fI : Addr} (F : Fr h₀ L s.heap m) (X₀ : K.In h₀) (N : News h₀ L s.heap news) (hm : makesIn K C = true)
    (hi : findIn K (.ref C) "__init__" = some (some (.ref fI))) (hf : isFn K (.ref fI) = true)
    (h : ∀ x dx h', Fr h₀ L h' m → News h₀ L h' ((x, instObj C dx) :: (dx, dictOf [] 0) :: news) → (∀ p ∈ news, p.1 < dx) → dx < x →
      codeC (model prog w) (A.under (.builtin "type.__call__" ⟨.ref C :: rest, []⟩)) (.call (.ref fI) ⟨.ref x :: rest, []⟩) (InitBack x fun r s' => match r with | .ok (.ret v) => Q v s' | .ok _ => False | .error e => E e s') { s with heap := h' }) :
    wpC (model prog w) A (call (.ref C) rest) Q E s := by
  refine wpC_call ?_
  have X := X₀.keeps F.keep
  obtain ⟨hh, g, d, t, os⟩ := s
  refine makeC_core (makes_of X hm) (looks_findIn X hi) (fun self => bind_fn X self (beq_iff_eq.mp hf)) rfl (h _ hh.objs.size _ ((F.push _).push _) ?_ (fun p hp => Heap.lt_size (N p hp).1) (Nat.lt_succ_self _))
  have := (N.push F emptyDict).push (F.push _) (instObj C hh.objs.size)
  rwa [Heap.size_push] at this
/-- bytearray(n), over clean stacks: a new object of the ledger -/
theorem callC_baK {n : Int} {t : Tok} (hg : A.guards = some []) (F : Fr h₀ L s.heap m) (N : News h₀ L s.heap news) (h0 : 0 ≤ n) (h1 : n ≤ 16777216)
    (h : ∀ b h', Fr h₀ L h' m → News h₀ L h' ((b, baObj (List.replicate n.toNat 0)) :: news) → (∀ p ∈ news, p.1 < b) → Q (.ref b) { s with heap := h' }) : wpC (model prog w) A (call (.type "bytearray") [.int n t]) Q E s := by
  refine callC_ba_int hg h0 h1 fun h' e k => h _ _ ?_ ?_ fun p hp => Heap.lt_size (N p hp).1
  · have kk : ∀ c o, s.heap.get? c = some o → h'.get? c = some o := fun c o ho => (k.2 c (Nat.ne_of_lt (Heap.lt_size ho))).trans (Heap.get?_push_of_some _ ho)
    exact F.keeps kk
  · have kk : ∀ c o, s.heap.get? c = some o → h'.get? c = some o := fun c o ho => (k.2 c (Nat.ne_of_lt (Heap.lt_size ho))).trans (Heap.get?_push_of_some _ ho)
    intro p hp
    rcases List.mem_cons.mp hp with z | hp
    · subst z
      exact ⟨e, Nat.ne_of_gt F.ns.lt, Heap.get?_none_of_le (Nat.le_trans F.above (Nat.le_of_lt F.ns.lt))⟩
    · exact ⟨kk _ _ (N p hp).1, (N p hp).2⟩
end
end Mine
end
section
open PySem PySem.W PyProof.Rows PySem.Calls
set_option Elab.async false
namespace Mine
theorem plain_Ref : True := by
  w_top off
  k_with_none
  trivial
/-- a call of a def that may catch, from law's own frame -/
def CallsTA (w : World) (n : Nat) (f : Addr) (vs : List Value) (news : List (Addr × Obj)) (P : Value → List (Addr × Obj) → Prop) : Prop :=
  ∀ (mean : ExcName → Option Value) (mg mb : Str → Option Value) (dp un : Nat) (gd : Option (List Code)) (cn : Str) (cs : Scope) (a : Addr) (ccd : Value) (cl : List (Str × Addr)) (A₀ : Around) (h₀ : Heap) (L : Addr) (m : Str → Option Value) (s : Shared) (Q E : Value → Shared → Prop),
    Below A₀ h₀ [] h₀ → Fr h₀ L s.heap m → (MineH.top.heap_1 w.params).In h₀ → News h₀ L s.heap news → Top MineH.top.view_1 (looseW MineH.top.view_1 []) mean mg mb h₀ → cs.kind = .function → dp + n < recursionLimit → un + 10 * n < cLine →
    (∀ r news' h' tk', P r news' → Fr h₀ L h' m → News h₀ L h' news' → Q r { s with heap := h', toks := tk' }) →
    wpAny (model PySem.Challenge.rw_nm0116_01.row.prog w) (ktrTop dp un gd cn cs L a ccd cl []) (call (.ref f) vs) Q E s
theorem CallsTA.use {w : World} {n : Nat} {f : Addr} {vs : List Value} {news : List (Addr × Obj)} {P : Value → List (Addr × Obj) → Prop} (C : CallsTA w n f vs news P)
    {mean : ExcName → Option Value} {mg mb : Str → Option Value} {dp un : Nat} {gd : Option (List Code)} {cn : Str} {cs : Scope} {a : Addr} {ccd : Value} {cl : List (Str × Addr)} {A₀ : Around} {h₀ : Heap} {L : Addr} {m : Str → Option Value} {s : Shared} {Q E : Value → Shared → Prop}
    (B : Below A₀ h₀ [] h₀) (F : Fr h₀ L s.heap m) (K : (MineH.top.heap_1 w.params).In h₀) (N : News h₀ L s.heap news) (T : Top MineH.top.view_1 (looseW MineH.top.view_1 []) mean mg mb h₀) (hk : cs.kind = .function) (hd : dp + n < recursionLimit) (hu : un + 10 * n < cLine)
    (hr : ∀ r news' h' tk', P r news' → Fr h₀ L h' m → News h₀ L h' news' → Q r { s with heap := h', toks := tk' }) :
    wpAny (model PySem.Challenge.rw_nm0116_01.row.prog w) (ktrTop dp un gd cn cs L a ccd cl []) (call (.ref f) vs) Q E s := C _ _ _ _ _ _ _ _ _ _ _ _ _ _ _ _ _ _ B F K N T hk hd hu hr
abbrev szD (H1 H2 H3 H4 H5 : Int) (k1 k2 k3 k4 k5 : Tok) (page pages el de : Int) (tp tq te td : Tok) (fu : Value) : Obj :=
  dictOf [⟨H1, .str "page" k1, .int page tp⟩, ⟨H2, .str "pages" k2, .int pages tq⟩, ⟨H3, .str "elements" k3, .int el te⟩, ⟨H4, .str "depth" k4, .int de td⟩, ⟨H5, .str "fuel" k5, fu⟩] 5
theorem gt_true {prog : Program} {w : World} {A : Around} {E : Value → Shared → Prop} {s : Shared} {a b : Int} {t u : Tok} {Q : Value → Shared → Prop} (h : b < a) (hq : Q (.bool true) s) : wpAny (model prog w) A (compareOp .Gt (.int a t) (.int b u)) Q E s :=
  PyProof.Rows.gt_int (by rw [decide_eq_true h]; exact hq)
theorem lines_Ref_0 : True := by
  w_top off
  k_with_none
  k_with "mine compareOp Gt int int" => (k_here; (with_reducible refine' gt_true ?h ?_); (case h => assumption))
  k_with "mine call ref" => (k_here; (with_reducible show wpAny _ _ (call (Value.ref 56) [Value.str _ _]) _ _ _); k_dflt (refine' Calls.use (misused_calls _ _ _ _) ?B ?F ?X ?N ?T ?k ?d ?u ?_ ?x); (case B => k_asm); (case F => k_asm); (case X => k_asm); (case N => k_asm); (case T => k_asm); (case k => k_dflt (exact rfl)); (case d => ktr_room); (case u => first | ktr_units | (simp only [units_under_make, units_deeper, ktrTop]; omega)); (case x => intro _ _ _ _ _ _ _ _ _ hX; exact hX.elim); k_whole; intro r n' h' tk' hP F' N'; obtain ⟨e, t, dx, H, k, hr, hap, hn⟩ := hP; subst hr; subst hn)
  k_with "mine exec Raise some none" => (k_here; k_dflt (refine' exec_raise_fault ?h ?_; (case h => exact rfl)); k_whole)
  k_with "mine RaisM ref" => (k_here; refine' raisM_intro ?F ?X ?C ?N ?_; (case F => k_asm); (case X => k_asm); (case N => k_asm); (case C => exact misused_cls _); k_whole)
  k_with "mine RaisM" => (k_here; refine' raisM_intro ?F ?X ?C ?N ?_; (case F => k_asm); (case X => k_asm); (case N => k_asm); (case C => exact misused_cls _); k_whole)
  k_with "mine leaving ref" => (k_here; first | (refine' leaveNextM ?B ?R ?U ?_; (case B => assumption); (case R => assumption); (case U => assumption); k_whole; intro h' R' U') | (refine' leaveFirstM ?B ?F ?N ?a ?_; (case B => assumption); (case F => k_asm); (case N => k_asm); (case a => assumption); k_whole; intro h' R' U'))
  k_with "mine noteFrame ref" => (k_here; k_dflt (refine' caught_M ?R ?F ?K ?m ?f ?s ?XB ?TB (misused_cls _) ?e ?_; (case R => assumption); (case F => assumption); (case K => assumption); (case m => assumption); (case f => exact rfl); (case s => assumption); (case XB => assumption); (case TB => assumption); (case e => k_is)); k_whole; intro h' g' oe' tk' T' F' N' oc' ox' on' B' X' T2' M'; (try dsimp only))
  k_with "mine getAttr ref" => (k_here; (with_reducible show wpAny _ _ (getAttr (Value.ref _) (PySem.Str.ofString "why") _) _ _ _); k_dflt (refine' why_get ?F ?X ?N ?m ?d ?c ?x ?n ?_; (case F => k_asm); (case X => k_asm); (case N => k_asm); (case m => k_dflt k_mem); (case d => k_dflt k_mem); (case c => exact .inr (by assumption)); (case x => assumption); (case n => assumption)); k_whole)
  k_with "mine InitBack" => ((with_reducible show InitBack _ _ (Except.error _) _); unfold InitBack; (try dsimp only))
  k_with "mine call ref" => (k_here; (with_reducible show wpAny _ _ (call (Value.ref 185) _) _ _ _); k_dflt (refine' call_cls ?k1 ?k2 ?k3 ?k4 ?k5 ?k6 ?_; (case k1 => k_asm); (case k2 => k_asm); (case k3 => k_asm); (case k4 => k_is); (case k5 => k_is); (case k6 => k_is); k_whole; intro x' d' h' F' N' l1 l2; (try k_lt l1); (try k_lt2 l2); refine' code_def ?k1 ?k2 ?k3 ?k4 ?k5 ?kA ?kF ?kK ?k6 ?k7 ?k8 ?k9 ?kB ?_ ?c2 ?c3 ?c4 ?c5; (case kA => exact rfl); (case kF => exact rfl); (case kK => first | exact rfl | assumption); (case k1 => k_asm); (case k2 => k_asm); (case k3 => k_asm); (case k4 => k_asm); (case k5 => k_asm); (case k6 => k_is); (case k7 => k_is); (case k8 => ktr_room); (case k9 => exact BindsTo.of_eq rfl); (case c5 => decide); (case kB => exact locs rfl); (case c2 => exact rfl); (case c3 => exact rfl); (case c4 => exact rfl); k_whole; intro g' L' h' FG' F' N' B' X' T'; (try dsimp only)))
  trivial
set_option maxRecDepth 100000 in
set_option maxHeartbeats 2000000 in
theorem refused_calls (w : World) (sz dz : Addr) (H1 H2 H3 H4 H5 : Int) (k1 k2 k3 k4 k5 : Tok) (page pages el de : Int) (tp tq te td : Tok) (fu : Value) (hfu : handedIn fu = true) (least : Int) (t1 : Tok) (hl : pages < least) (own : List (Addr × Obj)) :
    CallsTA w 20 259 [.int least t1, .ref sz] ((sz, instObj 207 dz) :: (dz, szD H1 H2 H3 H4 H5 k1 k2 k3 k4 k5 page pages el de tp tq te td fu) :: own) (fun res n' => res = .bool true ∧ n' = own) := by
  unfold CallsTA
  k_fill
  intro mean mg mb dp un gd cn cs a ccd cl A₀ h₀ L m s Q E B F X N T hk hd hu hret
  refine wpAny_call ?_
  k_dflt (refine' code_defT ?k1 ?k2 ?k3 ?k4 ?k5 ?kA ?kF ?kK ?k6 ?k7 ?k8 ?k9 ?kB ?_ ?c2 ?c3 ?c4 ?c5; (case kA => exact rfl); (case kF => exact rfl); (case kK => assumption); (case k1 => k_asm); (case k2 => k_asm); (case k3 => k_asm); (case k4 => k_asm); (case k5 => k_asm); (case k6 => k_is); (case k7 => k_is); (case k8 => ktr_room); (case k9 => exact BindsTo.of_eq rfl); (case c5 => decide); (case kB => exact locs rfl); (case c2 => exact rfl); (case c3 => exact rfl); (case c4 => exact rfl); k_whole; intro g' L' h' FG' F' N' B' X' T' mn'; (try dsimp only))
  k_steps
  all_goals exact hret _ _ _ _ ⟨congrArg Value.bool (beq_self_eq_true _), rfl⟩ (by assumption) (News.perm (by assumption) (by intro p hp; repeat (first | exact hp | refine List.mem_cons_of_mem _ ?_)))
end Mine
end
section
open PySem PySem.W PyProof.Rows PySem.Calls
set_option Elab.async false
namespace Mine
theorem plain_Made : True := by
  w_top off
  k_with_none
  trivial
theorem perm_bxd {x d b : Addr × Obj} {l : List (Addr × Obj)} : ∀ p ∈ x :: d :: b :: l, p ∈ b :: x :: d :: l := by
  intro p hp
  rcases List.mem_cons.mp hp with e | hp
  · rw [e]; exact .tail _ (.head _)
  rcases List.mem_cons.mp hp with e | hp
  · rw [e]; exact .tail _ (.tail _ (.head _))
  rcases List.mem_cons.mp hp with e | hp
  · rw [e]; exact .head _
  · exact .tail _ (.tail _ (.tail _ hp))
theorem gt_false {prog : Program} {w : World} {A : Around} {E : Value → Shared → Prop} {s : Shared} {a b : Int} {t u : Tok} {Q : Value → Shared → Prop} (h : a ≤ b) (hq : Q (.bool false) s) : wpAny (model prog w) A (compareOp .Gt (.int a t) (.int b u)) Q E s :=
  PyProof.Rows.gt_int (by rw [decide_eq_false (by omega)]; exact hq)
theorem lines_Made_0 : True := by
  w_top off
  k_with_none
  k_with "mine call builtin:len" => (k_here; (with_reducible show wpAny _ _ (call (Value.builtin "len") [Value.bytes _ _]) _ _ _); refine' len_bytesL ?z ?_; (case z => omega))
  k_with "mine wpC" => (k_here; (with_reducible show wpC _ _ (execs (_ :: _) _) _ _ _); with_reducible refine wpC_execs_consA ?_)
  k_with "mine wpC" => (k_here; (with_reducible show wpC _ _ (execs [] _) _ _ _); with_reducible refine wpC_execs_nil ?_)
  k_with "mine wpC" => (k_here; (with_reducible show wpC _ _ (execs (Stmt.Assign [Expr.Subscript _ _ _] _ _ :: _) _) _ _ _); k_dflt (refine wpC_execs_cons (wpC_Assign_Subscript ?_ (by with_unfolding_all rfl))))
  k_with "mine wpC" => (k_here; (with_reducible show wpC _ _ (execs (Stmt.Expr (Expr.Call (Expr.Attribute (Expr.Attribute _ _ _) _ _) _ _ _) _ :: _) _) _ _ _); k_dflt (refine wpC_execs_cons (wpC_Expr ?_ (by with_unfolding_all rfl) (by with_unfolding_all rfl))))
  k_with "mine wpC" => (k_here; (with_reducible show wpC _ _ (execs (Stmt.Assign [Expr.Attribute _ _ _] (Expr.Call _ _ _ _) _ :: _) _) _ _ _); k_dflt (refine wpC_execs_cons (wpC_Assign_Attribute ?_ (by with_unfolding_all rfl))))
  k_with "mine wpC" => (k_here; (with_reducible show wpC _ _ (eval (Expr.Call (Expr.Attribute _ _ _) _ _ _) _) _ _ _); k_dflt (refine wpC_Call_Attr ?_ (by with_unfolding_all rfl)))
  k_with "mine wpC" => (k_here; (with_reducible show wpC _ _ (eval (Expr.Call (Expr.Name _ _) _ _ _) _) _ _ _); k_dflt (refine wpC_Call_Name ?_))
  k_with "mine wpC" => (k_here; (with_reducible show wpC _ _ (callWith _ (Value.builtin _) _ _ _) _ _ _); k_dflt (refine wpC_callWith_mach (by with_unfolding_all rfl) ?_ (by with_unfolding_all rfl) (by with_unfolding_all rfl)))
  k_with "mine wpC" => (k_here; (with_reducible show wpC _ _ (setItem (Value.ref _) (Value.ref _) (Value.bytes _ _)) _ _ _); k_dflt (refine' setslice_bytesK ?g ?F ?N ?U ?a ?b ?c ?d ?z ?_; (case g => exact rfl); (case F => k_asm); (case N => k_asm); (case U => k_upd); (case z => assumption); (case a => omega); (case b => omega); (case c => omega); (case d => first | exact partD (by assumption) (by assumption) (by assumption) | omega | (simp only [List.length_map, octI_length]; omega) | ((show ((fillU _ _).length : Int) = _); rw [fillU_length]; omega) | (rw [part_length (by omega)]; omega)); k_whole; intro h' F' N'))
  k_with "mine k_handed" => assumption
  k_with "mine compareOp Gt int int" => (k_here; (with_reducible refine' gt_false ?h ?_); (case h => assumption))
  k_with "mine k_all" => (rename ∀ p : Addr × Obj, p ∈ _ → p.1 < _ => lz; first | exact fun p hp => Nat.ne_of_lt (lz p hp) | exact fun p hp => Nat.ne_of_lt (Nat.lt_trans (lz p hp) (by assumption)))
  k_with "mine wpC" => (k_here; (with_reducible show wpC _ _ (execs (Stmt.If _ _ _ _ :: _) _) _ _ _); k_dflt (refine wpC_execs_cons (wpC_If ?_)))
  k_with "mine wpC" => (k_here; (with_reducible show wpC _ _ (callWith _ (Value.type _) _ _ _) _ _ _); k_dflt (refine wpC_callWith_mach (by with_unfolding_all rfl) ?_ (by with_unfolding_all rfl) (by with_unfolding_all rfl)))
  k_with "mine wpC" => (k_here; (with_reducible show wpC _ _ (call (Value.type "bytearray") [Value.int _ _]) _ _ _); k_dflt (refine' callC_baK ?g ?F ?N ?a ?b ?_; (case g => exact rfl); (case F => k_asm); (case N => k_asm); (case a => assumption); (case b => assumption)); k_whole; intro b' h' F' N' lb; (try k_lt lb))
  k_with "mine InitBack" => ((with_reducible show InitBack _ _ (Except.ok _) _); unfold InitBack; (try dsimp only); refine ⟨rfl, ?_⟩)
  trivial
set_option maxRecDepth 100000 in
set_option maxHeartbeats 2000000 in
theorem made_calls (w : World) (sz dz : Addr) (H1 H2 H3 H4 H5 : Int) (k1 k2 k3 k4 k5 : Tok) (page pages el de : Int) (tp tq te td : Tok) (fu : Value) (least : Int) (t1 : Tok) (most : Value) (hmo : handedIn most = true) (hl : least ≤ pages) (hz0 : 0 ≤ least * page) (hz1 : least * page ≤ 16777216) (hp0 : 0 ≤ page) (hp1 : page < 1000) (own : List (Addr × Obj)) :
    CallsC w 12 185 [.int least t1, most, .ref sz] ((sz, instObj 207 dz) :: (dz, szD H1 H2 H3 H4 H5 k1 k2 k3 k4 k5 page pages el de tp tq te td fu) :: own) (fun res n' => ∃ M : Mem, res = .ref M.x ∧ M.most = most ∧ M.page = page ∧ M.pages = pages ∧ M.d = List.replicate (least * page).toNat 0 ∧ (∀ p ∈ (sz, instObj 207 dz) :: (dz, szD H1 H2 H3 H4 H5 k1 k2 k3 k4 k5 page pages el de tp tq te td fu) :: own, @LT.lt Nat _ p.1 M.b) ∧ (∀ p ∈ (sz, instObj 207 dz) :: (dz, szD H1 H2 H3 H4 H5 k1 k2 k3 k4 k5 page pages el de tp tq te td fu) :: own, @LT.lt Nat _ p.1 M.dx) ∧ @LT.lt Nat _ M.dx M.x ∧ @LT.lt Nat _ M.x M.b ∧ @LT.lt Nat _ M.dx M.b ∧ n' = M.led ((sz, instObj 207 dz) :: (dz, szD H1 H2 H3 H4 H5 k1 k2 k3 k4 k5 page pages el de tp tq te td fu) :: own)) NoX := by
  unfold CallsC
  k_fill
  intro mean mg mb dp un cn cs a ccd cl outer A₀ base h₀ L m s Q E B F X N T hk hd hu hret hraise
  k_dflt (refine' callC_cls ?k1 ?k2 ?k3 ?k4 ?k5 ?k6 ?_; (case k1 => k_asm); (case k2 => k_asm); (case k3 => k_asm); (case k4 => k_is); (case k5 => k_is); (case k6 => k_is); k_whole; intro x' d' h' F' N' l1 l2; have l4 := l1; have l5 := l2; have l3 := fun p hp => l1 p (List.mem_cons_of_mem _ (List.mem_cons_of_mem _ hp)); (try k_lt l1); (try k_lt2 l2); refine' codeC_def ?k1 ?k2 ?k3 ?k4 ?k5 ?kA ?kF ?kK ?k6 ?k7 ?k8 ?k9 ?kB ?_ ?c2 ?c3 ?c4 ?c5; (case kA => exact rfl); (case kF => exact rfl); (case kK => first | exact rfl | assumption); (case k1 => k_asm); (case k2 => k_asm); (case k3 => k_asm); (case k4 => k_asm); (case k5 => k_asm); (case k6 => k_is); (case k7 => k_is); (case k8 => ktr_room); (case k9 => exact BindsTo.of_eq rfl); (case c5 => decide); (case kB => exact locs rfl); (case c2 => exact rfl); (case c3 => exact rfl); (case c4 => exact rfl); k_whole; intro g' L' h' tk' FG' F' N' B' X' T'; (try dsimp only))
  k_steps
  rename _ ∧ _ ∧ _ ∧ _ ∧ AllLt _ own => lb
  exact hret _ _ _ _ ⟨⟨_, _, _, _, _, _, _, _, _, _, _, _, _, most, page, pages, _⟩, rfl, rfl, rfl, rfl, rfl, allLt_at lb.2.2, l4, l5, lb.1, lb.2.1, rfl⟩ (by assumption) (News.perm (by assumption) perm_bxd)
end Mine
end
section
open PySem PySem.W PyProof.Rows PySem.Calls
set_option Elab.async false
namespace Mine
set_option maxRecDepth 100000 in
set_option maxHeartbeats 2000000 in
theorem digit_tells (w : World) (mean : ExcName → Option Value) (mg mb : Str → Option Value) : CellTells PySem.Challenge.rw_nm0116_01.row.prog w (MineH.top.heap_1 w.params) MineH.top.view_1 (looseW MineH.top.view_1 []) mean mg mb 218 0 := by
  k_fill
  cell_step
end Mine
end
section
open PySem PySem.W PyProof.Rows PySem.Calls
set_option Elab.async false
namespace Mine
theorem plain_Pro1 : True := by
  w_top off
  k_with_none
  trivial
set_option maxRecDepth 100000
def lawB : List Stmt := match PySem.Challenge.rw_nm0116_01.row.prog.theDef "law" with | some (_, b, _) => b | none => []
def lawS : Scope := match PySem.Challenge.rw_nm0116_01.row.prog.theDef "law" with | some (_, _, s) => s | none => default
abbrev lawE (L fa : Addr) (cd : Value) : Env := envOfC "law" lawS L fa cd

theorem lines_Pro1_0 : True := by
  w_top off
  k_with_none
  k_with "mine eval Call" => (k_here; (with_reducible show wpAny _ _ (eval (Expr.Call (Expr.Name _ _) _ [] _) _) _ _ _); k_dflt (refine Call_ ?_))
  trivial
theorem lenFit {ns : List Int} (h : ns.length ≤ 63) : ns.length < 2 ^ 62 := Nat.lt_of_le_of_lt h (by decide)
theorem lines_Pro1_1 : True := by
  k_with "mine call ref" => (k_here; (with_reducible show wpAny _ _ (call (Value.ref 218) [Value.ref _, Value.int _ _]) _ _ _); k_dflt (refine' cellTells_use ?B ?F ?X ?N ?T ?k ?l ?i ?f ?z (digit_tells _ _ _ _) ?d ?u ?_); (case B => k_asm); (case F => k_asm); (case X => k_asm); (case N => k_asm); (case T => k_asm); (case k => k_dflt (exact rfl)); (case l => assumption); (case i => assumption); (case f => exact lenFit (by assumption)); (case z => first | decide | omega); (case d => ktr_room); (case u => ktr_units); k_whole; intro t' h' tk' F' N')
  trivial
theorem cell_gen {o : Obj} {a : Int} {t : Tok} {P : Int → Prop} (h : o.data = Data.cell (some (Value.int a t))) (hp : P a) : ∃ a, P a ∧ o.data = Data.cell (some (Value.int a t)) := ⟨a, hp, h⟩
theorem p_page (f : Int) : (fun p => 3 ≤ p ∧ p ≤ 8) (3 + Int.fmod f 6) := by
  have := fmod_lo f (n := 6) (by decide)
  have := fmod_hi f (n := 6) (by decide)
  exact ⟨by omega, by omega⟩
theorem p_pages (f : Int) : (fun p => 2 ≤ p ∧ p ≤ 5) (2 + Int.fmod f 4) := by
  have := fmod_lo f (n := 4) (by decide)
  have := fmod_hi f (n := 4) (by decide)
  exact ⟨by omega, by omega⟩
theorem p_l0 (f : Int) : 1 ≤ 1 + Int.fmod f 2 ∧ 1 + Int.fmod f 2 ≤ 2 := by
  have := fmod_lo f (n := 2) (by decide)
  have := fmod_hi f (n := 2) (by decide)
  exact ⟨by omega, by omega⟩
theorem p_l1 (f : Int) {ps : Int} (h : 2 ≤ ps ∧ ps ≤ 5) : 0 ≤ Int.fmod f (ps + 1) ∧ Int.fmod f (ps + 1) ≤ ps := by
  rw [Int.fmod_eq_emod_of_nonneg _ (by omega)]
  have := Int.emod_nonneg f (show ps + 1 ≠ 0 by omega)
  have := Int.emod_lt_of_pos f (show 0 < ps + 1 by omega)
  exact ⟨by omega, by omega⟩
theorem four_of {n : Nat} (h : n < 4) : n = 0 ∨ n = 1 ∨ n = 2 ∨ n = 3 :=
  match n, h with
  | 0, _ => .inl rfl
  | 1, _ => .inr (.inl rfl)
  | 2, _ => .inr (.inr (.inl rfl))
  | 3, _ => .inr (.inr (.inr rfl))
theorem item4K {prog : Program} {w : World} {A : Around} {E : Value → Shared → Prop} {s : Shared} {h₀ : Heap} {L l : Addr} {news : List (Addr × Obj)} {v0 v1 v2 v3 : Value} {c : Nat} {k : Int} {u : Tok} {value slice : PySem.Expr} {Q : Value → Shared → Prop} (N : News h₀ L s.heap news) (hm : (l, lstO [v0, v1, v2, v3] c) ∈ news) (h0 : 0 ≤ k) (h1 : k < 4)
    (h : ∀ v, (v = v0 ∨ v = v1 ∨ v = v2 ∨ v = v3) → Q v s)
    (hs : subscripted slice false (.ref l) (.int k u) = operate [.ref l, .int k u] (getItem (.ref l) (.int k u)) := by with_unfolding_all rfl) :
    wpAny (model prog w) A (subscriptTail value slice (.ref l) (.int k u)) Q E s := by
  have hl : s.heap.IsList l [v0, v1, v2, v3].toArray := News.isList N hm
  have hx : ∃ v, [v0, v1, v2, v3][k.toNat]? = some v ∧ (v = v0 ∨ v = v1 ∨ v = v2 ∨ v = v3) := by
    have : k.toNat = 0 ∨ k.toNat = 1 ∨ k.toNat = 2 ∨ k.toNat = 3 := four_of ((Int.toNat_lt h0).mpr h1)
    rcases this with e | e | e | e <;> rw [e]
    · exact ⟨_, rfl, .inl rfl⟩
    · exact ⟨_, rfl, .inr (.inl rfl)⟩
    · exact ⟨_, rfl, .inr (.inr (.inl rfl))⟩
    · exact ⟨_, rfl, .inr (.inr (.inr rfl))⟩
  obtain ⟨v, hx, hv⟩ := hx
  exact tail_any hl.typeIs slot_list_getitem.lookup (wpAny_getItem_list hl h0 (Int.lt_trans h1 (by decide)) (by simpa using hx) (h v hv)) hs
theorem fm4 (f : Int) : 0 ≤ Int.fmod f 4 ∧ Int.fmod f 4 < 4 := ⟨fmod_lo f (n := 4) (by decide), fmod_hi f (n := 4) (by decide)⟩
theorem lines_Pro1_2 : True := by
  k_with "mine subscriptTail" => (k_here; (with_reducible show wpAny _ _ (subscriptTail _ _ (Value.ref _) (Value.int (Int.fmod _ 4) _)) _ _ _); k_dflt (refine' item4K ?N ?m ?a ?b ?_ ?s); (case N => k_asm); (case m => k_dflt k_mem); (case a => exact (fm4 _).1); (case b => exact (fm4 _).2); (case s => with_unfolding_all rfl); k_whole; intro v' hv')
  k_with "mine subscriptTail List BinOp ref int" => (k_here; (with_reducible show wpAny _ _ (subscriptTail _ _ (Value.ref _) (Value.int (Int.fmod _ 4) _)) _ _ _); k_dflt (refine' item4K ?N ?m ?a ?b ?_ ?s); (case N => k_asm); (case m => k_dflt k_mem); (case a => exact (fm4 _).1); (case b => exact (fm4 _).2); (case s => with_unfolding_all rfl); k_whole; intro v' hv')
  k_with "mine subscriptTail List cons BinOp ref int" => (k_here; (with_reducible show wpAny _ _ (subscriptTail _ _ (Value.ref _) (Value.int (Int.fmod _ 4) _)) _ _ _); k_dflt (refine' item4K ?N ?m ?a ?b ?_ ?s); (case N => k_asm); (case m => k_dflt k_mem); (case a => exact (fm4 _).1); (case b => exact (fm4 _).2); (case s => with_unfolding_all rfl); k_whole; intro v' hv')
  k_with "mine exec Assign cons ListComp" => (k_here; lcg_look; lcg_calm; k_dflt (refine LCg.Assign_ListComp_U (F₀ := by k_asm) (by rfl) (by with_unfolding_all rfl) (by rfl) (by decide) (by rfl) (by decide) (by rfl) (by rfl) (by rfl) ?_); k_dflt lcg_toSrc)
  k_with "mine CompSrc" => (k_here; k_dflt (first | (refine LCg.CompSrc.ledger (by rfl) (by k_asm) (by k_asm) (by k_mem) (by first | size_fits | exact Nat.le_of_ble_eq_true rfl) ?_; intro g'; lcg_lit) | (refine LCg.CompSrc.range (by rfl) (by k_asm) (by k_asm) (by assumption) (by first | decide | rfl) (by first | rfl | decide) (by first | size_fits | exact Nat.le_of_ble_eq_true rfl) ?_; intro g'; lcg_lit)))
  trivial
theorem frPin {h₀ h : Heap} {L : Addr} {m : Str → Option Value} {x : Str} {v : Value} (F : Fr h₀ L h m) (hx : m x = some v) : Fr h₀ L h (fun y => if y = x then some v else m y) := by
  have e : (fun y => if y = x then some v else m y) = m := by
    funext y
    by_cases q : y = x
    · rw [if_pos q, q, hx]
    · rw [if_neg q]
  rw [e]; exact F
def MostV (v : Value) : Prop := v = .none ∨ ∃ k t, v = .int k t
theorem mostV_of {v : Value} {a b : Int} {t u w : Tok} (h : v = .none ∨ v = .int a t ∨ v = .int b u ∨ v = .int 9 w) : MostV v := by
  rcases h with h | h | h | h
  · exact .inl h
  · exact .inr ⟨_, _, h⟩
  · exact .inr ⟨_, _, h⟩
  · exact .inr ⟨_, _, h⟩

/-- the statements 1 to 7 of law -/
def K1 (w : World) (h₀ : Heap) (L fa l : Addr) (cd : Value) (Q : Flow → Shared → Prop) (s : Shared) : Prop :=
  ∀ (pg ps la lb : Int) (ta tb tp tq : Tok) (va vb : Value) (LA ZA : Addr) (n : Nat) (oS oM oL oQ oP o3 o2 : Obj) (v3 v2 : Int) (t3 t2 : Tok) (u : Str → Option Value) (xS : Option Value) (h' : Heap) (tk : Nat),
    oS.data = .cell xS → (3 ≤ pg ∧ pg ≤ 8) → (2 ≤ ps ∧ ps ≤ 5) → (1 ≤ la ∧ la ≤ 2) → (0 ≤ lb ∧ lb ≤ ps) → MostV va → MostV vb →
    oM.data = .cell (some (.ref ZA)) → oL.data = .cell (some (.ref LA)) → oQ.data = .cell (some (.int ps tq)) → oP.data = .cell (some (.int pg tp)) → o3.data = .cell (some (.int v3 t3)) → o2.data = .cell (some (.int v2 t2)) →
    Fr h₀ L h' (fun y => if y = "script" then some (.ref l) else u y) →
    News h₀ L h' [(ZA, lstO [va, vb] n), (LA, lstO [.int la ta, .int lb tb] 0), (L + 1 + 1 + 1 + 1 + 1 + 1 + 1, oS), (L + 1 + 1 + 1 + 1 + 1 + 1, oM), (L + 1 + 1 + 1 + 1 + 1, oL), (L + 1 + 1 + 1 + 1, oQ), (L + 1 + 1 + 1, oP), (L + 1 + 1, o3), (L + 1, o2)] →
    wpC (model PySem.Challenge.rw_nm0116_01.row.prog w) (callerA.deeper (lawE L fa cd)) (execs (lawB.drop 7) (lawE L fa cd)) Q (fun _ _ => False) { s with heap := h', toks := tk }
theorem lines_Pro1_3 : True := by
  k_with "mine k_ne" => (first | exact neN (Nat.ne_of_gt (And.left ((by assumption)))) | exact neN (Nat.ne_of_gt (And.left (And.right ((by assumption))))) | exact neN (Nat.ne_of_gt (And.left (And.right (And.right ((by assumption)))))) | exact neN (Nat.ne_of_gt (And.left (And.right (And.right (And.right ((by assumption))))))) | exact neN (Nat.ne_of_gt (And.left (And.right (And.right (And.right (And.right ((by assumption)))))))) | exact neN (Nat.ne_of_gt (And.left (And.right (And.right (And.right (And.right (And.right ((by assumption))))))))) | exact neN (Nat.ne_of_gt (And.left (And.right (And.right (And.right (And.right (And.right (And.right ((by assumption)))))))))) | exact neN (Nat.ne_of_gt (And.left (And.right (And.right (And.right (And.right (And.right (And.right (And.right ((by assumption))))))))))) | exact neN (Nat.ne_of_gt (And.left (And.right (And.right (And.right (And.right (And.right (And.right (And.right (And.right ((by assumption)))))))))))) | exact neN (Nat.ne_of_gt (And.left (And.right (And.right (And.right (And.right (And.right (And.right (And.right (And.right (And.right ((by assumption))))))))))))) | exact neN (Nat.ne_of_gt (And.left (And.right (And.right (And.right (And.right (And.right (And.right (And.right (And.right (And.right (And.right ((by assumption)))))))))))))) | exact neN (Nat.ne_of_gt (And.left (And.right (And.right (And.right (And.right (And.right (And.right (And.right (And.right (And.right (And.right (And.right ((by assumption))))))))))))))) | exact neN (Nat.ne_of_gt (And.left (And.right (And.right (And.right (And.right (And.right (And.right (And.right (And.right (And.right (And.right (And.right (And.right ((by assumption)))))))))))))))) | exact neN (Nat.ne_of_gt (And.left (And.right (And.right (And.right (And.right (And.right (And.right (And.right (And.right (And.right (And.right (And.right (And.right (And.right ((by assumption))))))))))))))))) | exact neN (Nat.ne_of_gt (And.left (And.right (And.right (And.right (And.right (And.right (And.right (And.right (And.right (And.right (And.right (And.right (And.right (And.right (And.right ((by assumption)))))))))))))))))) | exact neN (Nat.ne_of_gt (And.left (And.right (And.right (And.right (And.right (And.right (And.right (And.right (And.right (And.right (And.right (And.right (And.right (And.right (And.right (And.right ((by assumption))))))))))))))))))) | exact neN (Nat.ne_of_gt (And.left (And.right (And.right (And.right (And.right (And.right (And.right (And.right (And.right (And.right (And.right (And.right (And.right (And.right (And.right (And.right (And.right ((by assumption)))))))))))))))))))) | exact neN (Nat.ne_of_gt (And.left (And.right (And.right (And.right (And.right (And.right (And.right (And.right (And.right (And.right (And.right (And.right (And.right (And.right (And.right (And.right (And.right (And.right ((by assumption))))))))))))))))))))) | exact neN (Nat.ne_of_gt (And.left (And.right (And.right (And.right (And.right (And.right (And.right (And.right (And.right (And.right (And.right (And.right (And.right (And.right (And.right (And.right (And.right (And.right (And.right ((by assumption)))))))))))))))))))))) | exact neN (Nat.ne_of_gt (And.left (And.right (And.right (And.right (And.right (And.right (And.right (And.right (And.right (And.right (And.right (And.right (And.right (And.right (And.right (And.right (And.right (And.right (And.right (And.right ((by assumption))))))))))))))))))))))) | exact neN (Nat.ne_of_gt (And.left (And.right (And.right (And.right (And.right (And.right (And.right (And.right (And.right (And.right (And.right (And.right (And.right (And.right (And.right (And.right (And.right (And.right (And.right (And.right (And.right ((by assumption)))))))))))))))))))))))) | exact neN (Nat.ne_of_gt (And.left (And.right (And.right (And.right (And.right (And.right (And.right (And.right (And.right (And.right (And.right (And.right (And.right (And.right (And.right (And.right (And.right (And.right (And.right (And.right (And.right (And.right ((by assumption))))))))))))))))))))))))) | exact Ne.symm (And.left ((by assumption))) | exact And.left ((by assumption)) | exact Ne.symm (And.left (And.right ((by assumption)))) | exact And.left (And.right ((by assumption))) | exact Ne.symm (And.left (And.right (And.right ((by assumption))))) | exact And.left (And.right (And.right ((by assumption)))) | exact Ne.symm (And.left (And.right (And.right (And.right ((by assumption)))))) | exact And.left (And.right (And.right (And.right ((by assumption))))) | exact Ne.symm (And.left (And.right (And.right (And.right (And.right ((by assumption))))))) | exact And.left (And.right (And.right (And.right (And.right ((by assumption)))))) | exact Ne.symm (And.left (And.right (And.right (And.right (And.right (And.right ((by assumption)))))))) | exact And.left (And.right (And.right (And.right (And.right (And.right ((by assumption))))))) | exact Ne.symm (And.left (And.right (And.right (And.right (And.right (And.right (And.right ((by assumption))))))))) | exact And.left (And.right (And.right (And.right (And.right (And.right (And.right ((by assumption)))))))) | exact Ne.symm (And.left (And.right (And.right (And.right (And.right (And.right (And.right (And.right ((by assumption)))))))))) | exact And.left (And.right (And.right (And.right (And.right (And.right (And.right (And.right ((by assumption))))))))) | exact Ne.symm (And.left (And.right (And.right (And.right (And.right (And.right (And.right (And.right (And.right ((by assumption))))))))))) | exact And.left (And.right (And.right (And.right (And.right (And.right (And.right (And.right (And.right ((by assumption)))))))))) | exact Ne.symm (And.left (And.right (And.right (And.right (And.right (And.right (And.right (And.right (And.right (And.right ((by assumption)))))))))))) | exact And.left (And.right (And.right (And.right (And.right (And.right (And.right (And.right (And.right (And.right ((by assumption))))))))))) | exact Ne.symm (And.left (And.right (And.right (And.right (And.right (And.right (And.right (And.right (And.right (And.right (And.right ((by assumption))))))))))))) | exact And.left (And.right (And.right (And.right (And.right (And.right (And.right (And.right (And.right (And.right (And.right ((by assumption)))))))))))) | exact Ne.symm (And.left (And.right (And.right (And.right (And.right (And.right (And.right (And.right (And.right (And.right (And.right (And.right ((by assumption)))))))))))))) | exact And.left (And.right (And.right (And.right (And.right (And.right (And.right (And.right (And.right (And.right (And.right (And.right ((by assumption))))))))))))) | exact Ne.symm (And.left (And.right (And.right (And.right (And.right (And.right (And.right (And.right (And.right (And.right (And.right (And.right (And.right ((by assumption))))))))))))))) | exact And.left (And.right (And.right (And.right (And.right (And.right (And.right (And.right (And.right (And.right (And.right (And.right (And.right ((by assumption)))))))))))))) | exact Ne.symm (And.left (And.right (And.right (And.right (And.right (And.right (And.right (And.right (And.right (And.right (And.right (And.right (And.right (And.right ((by assumption)))))))))))))))) | exact And.left (And.right (And.right (And.right (And.right (And.right (And.right (And.right (And.right (And.right (And.right (And.right (And.right (And.right ((by assumption))))))))))))))))
  trivial
local macro_rules | `(tactic| lcg_off) => `(tactic| assumption)
theorem lines_Pro1_4 : True := by
  k_with "mine CompRest" => (with_unfolding_all (refine LCg.CompRest.succ ?_; intro v' I' oI' C' oC' D' m' h' tk' E' hv' hC' hx' F' N' off' ne'; have offA := off'; (first | lcg_open hv' | (obtain ⟨t9', hv9'⟩ := hv'; subst hv9')); (try simp only [LCg.Off3, and_true] at off')))
  trivial
set_option maxHeartbeats 1000000 in
theorem law_p1 (w : World) (mean : ExcName → Option Value) (mg mb : Str → Option Value) (h₀ : Heap) (L fa l : Addr) (cd : Value) (vs : List Value) (ns : List Int) (cells : List (Addr × Obj)) (s : Shared) (Q : Flow → Shared → Prop) :
    ∀ (_B : Below callerA h₀ [] h₀) (_X : (MineH.top.heap_1 w.params).In h₀) (_T : Top MineH.top.view_1 (looseW MineH.top.view_1 []) mean mg mb h₀) (_hl : h₀.IsList l vs.toArray) (_hi : IntsAre vs ns) (_hn : ns.length ≤ 63)
    (_F : Fr h₀ L s.heap (bindL (lawE L fa cd).kindOf [("script", .ref l)] fun _ => none)) (_N : News h₀ L s.heap cells) (_Y : CellsAre (bindC (lawE L fa cd).kindOf [("script", .ref l)] fun _ => none) (cellsFrom (L + 1) lawS.names []) cells) (_k : K1 w h₀ L fa l cd Q s),
    wpC (model PySem.Challenge.rw_nm0116_01.row.prog w) (callerA.deeper (lawE L fa cd)) (execs lawB (lawE L fa cd)) Q (fun _ _ => False) s := by
  k_fill
  intro B X T hl hi hn F N Y k
  unfold K1 at k
  unfold lawE at *
  conv =>
    enter [3, 1]
    whnf
  generalize hS : lawS = sc at *
  conv at hS =>
    lhs
    whnf
  subst hS
  cells_open Y
  refine wpC_execs_consA ?_
  k_steps
  refine wpC_execs_consA ?_
  k_steps
  refine wpC_execs_consA ?_
  k_steps
  refine wpC_execs_consA ?_
  k_steps
  rename Obj.data _ = Data.cell (some (Value.int (3 + _) _)) => dp
  have q : ∃ a, (fun p : Int => 3 ≤ p ∧ p ≤ 8) a ∧ Obj.data _ = Data.cell (some (Value.int a _)) := ⟨_, p_page _, dp⟩
  clear dp
  obtain ⟨pg, pg0, dpg⟩ := q
  refine wpC_execs_consA ?_
  k_steps
  rename Obj.data _ = Data.cell (some (Value.int (2 + _) _)) => dp
  have q : ∃ a, (fun p : Int => 2 ≤ p ∧ p ≤ 5) a ∧ Obj.data _ = Data.cell (some (Value.int a _)) := ⟨_, p_pages _, dp⟩
  clear dp
  obtain ⟨ps, ps0, dps⟩ := q
  refine wpC_execs_consA ?_
  k_steps
  have q : ∃ a b t u, (1 ≤ a ∧ a ≤ 2) ∧ (0 ≤ b ∧ b ≤ ps) ∧ News h₀ L _ ((_, lstO [.int a t, .int b u] 0) :: _) := ⟨_, _, _, _, p_l0 _, p_l1 _ ps0, (by assumption)⟩
  obtain ⟨la, lb, ta, tb, la0, lb0, NL⟩ := q
  refine wpC_execs_consA ?_
  k_steps
  refine' k pg ps la lb _ _ _ _ _ _ _ _ _ _ _ _ _ _ _ _ _ _ _ _ _ _ _ _ ?d0 pg0 ps0 la0 lb0 ?m1 ?m2 ?d1 ?d2 ?d3 ?d4 ?d5 ?d6 ?F ?N
  case N => exact News.perm (by assumption) keep13
  case F => exact frPin (by assumption) rfl
  case m1 => exact mostV_of (by assumption)
  case m2 => exact mostV_of (by assumption)
  case d0 => assumption
  case d1 => assumption
  case d2 => assumption
  case d3 => assumption
  case d4 => assumption
  case d5 => assumption
  case d6 => assumption
end Mine
end
section
open PySem PySem.W PyProof.Rows PySem.Calls
set_option Elab.async false
namespace Mine
theorem plain_Pro2 : True := by
  w_top off
  k_with_none
  trivial
set_option maxRecDepth 100000
theorem frPin2 {h₀ h : Heap} {L : Addr} {m : Str → Option Value} {x y : Str} {v v' : Value} (F : Fr h₀ L h m) (hx : m x = some v) (hy : m y = some v') : Fr h₀ L h (fun z => if z = x then some v else if z = y then some v' else m z) :=
  frPin (m := fun z => if z = y then some v' else m z) (frPin F hy) (by
    by_cases q : x = y
    · subst q; rw [hx] at hy; cases hy; show (if x = x then _ else _) = _; rw [if_pos rfl]
    · show (if x = y then _ else _) = _; rw [if_neg q, hx])
def LimIs (v : Value) (ps l : Int) : Prop := (v = .none ∧ l = ps) ∨ ∃ k t, v = .int k t ∧ l = if k < ps then k else ps
theorem lenFit2 {ns : List Int} (h : ns.length ≤ 63) : ns.length < 2 ^ 62 := Nat.lt_of_le_of_lt h (by decide)
theorem lines_Pro2_0 : True := by
  w_top off
  k_with_none
  k_with "mine call ref" => (k_here; (with_reducible show wpAny _ _ (call (Value.ref 218) [Value.ref _, Value.int _ _]) _ _ _); k_dflt (refine' cellTells_use ?B ?F ?X ?N ?T ?k ?l ?i ?f ?z (digit_tells _ _ _ _) ?d ?u ?_); (case B => k_asm); (case F => k_asm); (case X => k_asm); (case N => k_asm); (case T => k_asm); (case k => k_dflt (exact rfl)); (case l => assumption); (case i => assumption); (case f => exact lenFit2 (by assumption)); (case z => first | decide | omega); (case d => ktr_room); (case u => ktr_units); k_whole; intro t' h' tk' F' N')
  k_with "mine exec Assign cons ListComp" => (k_here; lcg_look; lcg_calm; k_dflt (refine LCg.Assign_ListComp_U (F₀ := by k_asm) (by rfl) (by with_unfolding_all rfl) (by rfl) (by decide) (by rfl) (by decide) (by rfl) (by rfl) (by rfl) ?_); k_dflt lcg_toSrc)
  k_with "mine CompSrc" => (k_here; k_dflt (first | (refine LCg.CompSrc.ledger (by rfl) (by k_asm) (by k_asm) (by k_mem) (by first | size_fits | exact Nat.le_of_ble_eq_true rfl) ?_; intro g'; lcg_lit) | (refine LCg.CompSrc.range (by rfl) (by k_asm) (by k_asm) (by assumption) (by first | decide | rfl) (by first | rfl | decide) (by first | size_fits | exact Nat.le_of_ble_eq_true rfl) ?_; intro g'; lcg_lit)))
  k_with "mine compareOp Is" => (k_here; (rename MostV _ => hm'); rcases hm' with hm' | ⟨k', t', hm'⟩ <;> subst hm')
  trivial

def K2 (w : World) (h₀ : Heap) (L fa l : Addr) (cd : Value) (Q : Flow → Shared → Prop) (s : Shared) (ps la lb : Int) (ta tb : Tok) (va vb : Value) (LA ZA : Addr) (n : Nat) (oS oM oL oQ oP o3 o2 : Obj) : Prop :=
  ∀ (l0 l1 : Int) (u0 u1 : Tok) (LM : Addr) (nl : Nat) (u : Str → Option Value) (h' : Heap) (tk : Nat), LimIs va ps l0 → LimIs vb ps l1 →
    Fr h₀ L h' (fun y => if y = "limits" then some (.ref LM) else if y = "script" then some (.ref l) else u y) →
    News h₀ L h' ((LM, lstO [.int l0 u0, .int l1 u1] nl) :: [(ZA, lstO [va, vb] n), (LA, lstO [.int la ta, .int lb tb] 0), (L + 1 + 1 + 1 + 1 + 1 + 1 + 1, oS), (L + 1 + 1 + 1 + 1 + 1 + 1, oM), (L + 1 + 1 + 1 + 1 + 1, oL), (L + 1 + 1 + 1 + 1, oQ), (L + 1 + 1 + 1, oP), (L + 1 + 1, o3), (L + 1, o2)]) →
    wpC (model PySem.Challenge.rw_nm0116_01.row.prog w) (callerA.deeper (lawE L fa cd)) (execs (lawB.drop 8) (lawE L fa cd)) Q (fun _ _ => False) { s with heap := h', toks := tk }

local macro_rules | `(tactic| lcg_off) => `(tactic| assumption)
theorem lines_Pro2_1 : True := by
  k_with "mine CompRest" => (with_unfolding_all (refine LCg.CompRest.succ ?_; intro v' I' oI' C' oC' D' m' h' tk' E' hv' hC' hx' F' N' off' ne'; have offA := off'; (first | lcg_open hv' | (obtain ⟨t9', hv9'⟩ := hv'; subst hv9')); (try simp only [LCg.Off3, and_true] at off')))
  trivial
set_option maxHeartbeats 1000000 in
theorem law_p2 (w : World) (mean : ExcName → Option Value) (mg mb : Str → Option Value) (h₀ : Heap) (L fa l : Addr) (cd : Value) (vs : List Value) (ns : List Int) (s : Shared) (Q : Flow → Shared → Prop) (pg ps la lb : Int) (ta tb tp tq : Tok) (va vb : Value) (LA ZA : Addr) (n : Nat) (oS oM oL oQ oP o3 o2 : Obj) (v3 v2 : Int) (t3 t2 : Tok) (u : Str → Option Value) :
    ∀ (_B : Below callerA h₀ [] h₀) (_X : (MineH.top.heap_1 w.params).In h₀) (_T : Top MineH.top.view_1 (looseW MineH.top.view_1 []) mean mg mb h₀) (_hl : h₀.IsList l vs.toArray) (_hi : IntsAre vs ns) (_hn : ns.length ≤ 63) (_pg : 3 ≤ pg ∧ pg ≤ 8) (_ps : 2 ≤ ps ∧ ps ≤ 5) (_la : 1 ≤ la ∧ la ≤ 2) (_lb : 0 ≤ lb ∧ lb ≤ ps) (_ma : MostV va) (_mb : MostV vb)
    (_dM : oM.data = .cell (some (.ref ZA))) (_dL : oL.data = .cell (some (.ref LA))) (_dQ : oQ.data = .cell (some (.int ps tq))) (_dP : oP.data = .cell (some (.int pg tp))) (_d3 : o3.data = .cell (some (.int v3 t3))) (_d2 : o2.data = .cell (some (.int v2 t2)))
    (_F : Fr h₀ L s.heap (fun y => if y = "script" then some (.ref l) else u y)) (_N : News h₀ L s.heap [(ZA, lstO [va, vb] n), (LA, lstO [.int la ta, .int lb tb] 0), (L + 1 + 1 + 1 + 1 + 1 + 1 + 1, oS), (L + 1 + 1 + 1 + 1 + 1 + 1, oM), (L + 1 + 1 + 1 + 1 + 1, oL), (L + 1 + 1 + 1 + 1, oQ), (L + 1 + 1 + 1, oP), (L + 1 + 1, o3), (L + 1, o2)]) (_k : K2 w h₀ L fa l cd Q s ps la lb ta tb va vb LA ZA n oS oM oL oQ oP o3 o2),
    wpC (model PySem.Challenge.rw_nm0116_01.row.prog w) (callerA.deeper (lawE L fa cd)) (execs (lawB.drop 7) (lawE L fa cd)) Q (fun _ _ => False) s := by
  k_fill
  intro B X T hl hi hn pg0 ps0 la0 lb0 ma mb dM dL dQ dP d3 d2 F N k
  unfold K2 at k
  unfold lawE at *
  conv =>
    enter [3, 1]
    whnf
  generalize hS : lawS = sc at *
  conv at hS =>
    lhs
    whnf
  subst hS
  refine wpC_execs_consA ?_
  k_steps
  all_goals (refine' k _ _ _ _ _ _ _ _ _ ?l0 ?l1 ?F ?N; (case N => assumption); (case F => exact frPin2 (by assumption) rfl rfl); (case l0 => first | exact .inl ⟨rfl, rfl⟩ | exact .inr ⟨_, _, rfl, rfl⟩); (case l1 => first | exact .inl ⟨rfl, rfl⟩ | exact .inr ⟨_, _, rfl, rfl⟩))
end Mine
end
section
open PySem PySem.W PyProof.Rows PySem.Calls
set_option Elab.async false
namespace Mine
theorem plain_Pro3 : True := by
  w_top off
  k_with_none
  trivial
set_option maxRecDepth 100000
theorem news_dup2 {h₀ h : Heap} {L : Addr} {x y : Addr × Obj} {own : List (Addr × Obj)} (N : News h₀ L h own) (hx : x ∈ own) (hy : y ∈ own) : News h₀ L h (x :: y :: own) := news_dup0 (news_dup0 N hy) (.tail _ hx)
theorem pinAt {m : Str → Option Value} {x y : Str} {v v' : Value} (hx : m x = some v) (hy : m y = some v') : (fun z => if z = y then some v' else m z) x = some v := by
  by_cases q : x = y
  · subst q; rw [hx] at hy; cases hy; exact if_pos rfl
  · exact (if_neg q).trans hx
theorem frPin3 {h₀ h : Heap} {L : Addr} {m : Str → Option Value} {x y z : Str} {v v' v2 : Value} (F : Fr h₀ L h m) (hx : m x = some v) (hy : m y = some v') (hz : m z = some v2) :
    Fr h₀ L h (fun k => if k = x then some v else if k = y then some v' else if k = z then some v2 else m k) :=
  frPin (m := fun k => if k = y then some v' else if k = z then some v2 else m k) (frPin (m := fun k => if k = z then some v2 else m k) (frPin F hz) (pinAt hy hz)) (pinAt (m := fun k => if k = z then some v2 else m k) (pinAt hx hz) (pinAt hy hz))
theorem permSeg {a b c d e x : Addr × Obj} {l : List (Addr × Obj)} : ∀ p ∈ a :: b :: c :: d :: e :: l, p ∈ a :: b :: c :: e :: d :: x :: l := by
  intro p hp
  rcases List.mem_cons.mp hp with q | hp
  · rw [q]; exact .head _
  rcases List.mem_cons.mp hp with q | hp
  · rw [q]; exact .tail _ (.head _)
  rcases List.mem_cons.mp hp with q | hp
  · rw [q]; exact .tail _ (.tail _ (.head _))
  rcases List.mem_cons.mp hp with q | hp
  · rw [q]; exact .tail _ (.tail _ (.tail _ (.tail _ (.head _))))
  rcases List.mem_cons.mp hp with q | hp
  · rw [q]; exact .tail _ (.tail _ (.tail _ (.head _)))
  · exact .tail _ (.tail _ (.tail _ (.tail _ (.tail _ (.tail _ hp)))))
theorem oct_toU {l : List Int} (h : OctL l) : octInts (toU l) = l := by
  simp only [octInts, toU, List.map_map]
  conv => rhs; rw [← List.map_id l]
  apply List.map_congr_left
  intro n hn
  have := h n hn
  simp
  omega
theorem octL_fm {f : Int → Int} {l : List Int} : OctL (List.map (fun k => Int.fmod (f k) 256) l) := by
  intro n hn
  obtain ⟨k, _, rfl⟩ := List.mem_map.mp hn
  have := fmod_lo (f k) (n := 256) (by decide)
  have := fmod_hi (f k) (n := 256) (by decide)
  omega
theorem octL_take {l : List Int} (h : OctL l) (n : Nat) : OctL (l.take n) := fun x hx => h x (List.mem_of_mem_take hx)
theorem octL_drop {l : List Int} (h : OctL l) (n : Nat) : OctL (l.drop n) := fun x hx => h x (List.mem_of_mem_drop hx)
theorem seg_of {vs : List Value} {l : List Int} (h : IntsAre vs l) (ho : OctL l) (hn : l.length ≤ 9) : ∃ g : List UInt8, IntsAre vs (octInts g) ∧ g.length ≤ 9 :=
  ⟨toU l, by rw [oct_toU ho]; exact h, by simpa [toU] using hn⟩
theorem ne_cell {h₀ h : Heap} {L a b : Addr} {own : List (Addr × Obj)} {o1 o2 : Obj} {xs : Array Value} {n : Nat} {y : Option Value} (N : News h₀ L h own) (h1 : (a, o1) ∈ own) (h2 : (b, o2) ∈ own) (d1 : o1.data = .seq xs n) (d2 : o2.data = .cell y) : @Ne Nat a b := fun e => by
  have p := (N _ h1).1
  have q := (N _ h2).1
  dsimp only at p q
  rw [show a = b from e, q] at p
  cases p
  rw [d1] at d2
  cases d2
theorem lenFit3 {ns : List Int} (h : ns.length ≤ 63) : ns.length < 2 ^ 62 := Nat.lt_of_le_of_lt h (by decide)
theorem lines_Pro3_0 : True := by
  w_top off
  k_with_none
  k_with "mine call ref" => (k_here; (with_reducible show wpAny _ _ (call (Value.ref 218) [Value.ref _, Value.int _ _]) _ _ _); k_dflt (refine' cellTells_use ?B ?F ?X ?N ?T ?k ?l ?i ?f ?z (digit_tells _ _ _ _) ?d ?u ?_); (case B => k_asm); (case F => k_asm); (case X => k_asm); (case N => k_asm); (case T => k_asm); (case k => k_dflt (exact rfl)); (case l => assumption); (case i => assumption); (case f => exact lenFit3 (by assumption)); (case z => first | decide | omega); (case d => ktr_room); (case u => ktr_units); k_whole; intro t' h' tk' F' N')
  k_with "mine binaryOp FloorDiv int int" => (k_here; (with_reducible refine' floordiv_int ?a ?_ (Or.inl (PyProof.noPylong_of_log2 ?b))); (case a => exact pow256_ne _); (case b => first | exact log256 (rangeN (n := 9) (by assumption) (by decide)) | exact log256 (by omega)))
  k_with "mine call ref" => (k_here; (with_reducible show wpAny _ _ (call (Value.ref 259) [Value.int _ _, Value.ref _]) _ _ _); k_dflt (refine' CallsTA.use (refused_calls _ _ _ _ _ _ _ _ _ _ _ _ _ _ _ _ _ _ _ _ _ _ _ ?z1 _ _ ?z2 _) ?B ?F ?X ?N ?T ?k ?d ?u ?_); (case B => k_asm); (case F => k_asm); (case X => k_asm); (case N => exact news_dup2 (by k_asm) (by k_dflt k_mem) (by k_dflt k_mem)); (case T => k_asm); (case k => k_dflt (exact rfl)); (case d => ktr_room); (case u => ktr_units); (case z1 => exact rfl); (case z2 => (first | omega | (split <;> omega))); k_whole; intro r n' h' tk' hP F' N'; obtain ⟨hr, hn⟩ := hP; subst hr; subst hn)
  trivial

def K3 (w : World) (h₀ : Heap) (L fa l : Addr) (cd : Value) (Q : Flow → Shared → Prop) (s : Shared) (pg ps la lb : Int) (ta tb tp tq : Tok) (va vb : Value) (LA ZA : Addr) (n : Nat) (oM oL oQ oP o3 o2 : Obj) (l0 l1 : Int) (u0 u1 : Tok) (LM : Addr) (nl : Nat) : Prop :=
  ∀ (sz dz SG s0 s1 : Addr) (H1 H2 H3 H4 H5 : Int) (e1 e2 e3 e4 e5 te td : Tok) (el de : Int) (fu : Value) (ss0 ss1 : List Value) (g0 g1 : List UInt8) (i0 i1 ng : Nat) (oS : Obj) (u : Str → Option Value) (h' : Heap) (tk : Nat),
    handedIn fu = true → oS.data = .cell (some (.ref sz)) → IntsAre ss0 (octInts g0) → IntsAre ss1 (octInts g1) → g0.length ≤ 9 → g1.length ≤ 9 →
    Fr h₀ L h' (fun y => if y = "segments" then some (.ref SG) else if y = "limits" then some (.ref LM) else if y = "script" then some (.ref l) else u y) →
    News h₀ L h' ((sz, instObj 207 dz) :: (dz, szD H1 H2 H3 H4 H5 e1 e2 e3 e4 e5 pg ps el de tp tq te td fu) :: (SG, lstO [.ref s0, .ref s1, .none] ng) :: (s0, lstO ss0 i0) :: (s1, lstO ss1 i1) :: (LM, lstO [.int l0 u0, .int l1 u1] nl) :: [(ZA, lstO [va, vb] n), (LA, lstO [.int la ta, .int lb tb] 0), (L + 1 + 1 + 1 + 1 + 1 + 1 + 1, oS), (L + 1 + 1 + 1 + 1 + 1 + 1, oM), (L + 1 + 1 + 1 + 1 + 1, oL), (L + 1 + 1 + 1 + 1, oQ), (L + 1 + 1 + 1, oP), (L + 1 + 1, o3), (L + 1, o2)]) →
    wpC (model PySem.Challenge.rw_nm0116_01.row.prog w) (callerA.deeper (lawE L fa cd)) (execs (lawB.drop 11) (lawE L fa cd)) Q (fun _ _ => False) { s with heap := h', toks := tk }

theorem lines_Pro3_1 : True := by
  k_with "mine binaryOp Pow int int" => (k_here; (with_reducible refine' pow_int_small ?kb1 ?kb2 ?kb3 ?_); (case kb1 => assumption); (case kb2 => first | exact powD (by assumption) | exact powA (by assumption) (by assumption) | exact powA' (by assumption) (by assumption) | exact powC (by assumption) (by assumption)); (case kb3 => decide))
  k_with "mine k_ne" => (first | exact neN (Nat.ne_of_gt (And.left ((by assumption)))) | exact neN (Nat.ne_of_gt (And.left (And.right ((by assumption))))) | exact neN (Nat.ne_of_gt (And.left (And.right (And.right ((by assumption)))))) | exact neN (Nat.ne_of_gt (And.left (And.right (And.right (And.right ((by assumption))))))) | exact neN (Nat.ne_of_gt (And.left (And.right (And.right (And.right (And.right ((by assumption)))))))) | exact neN (Nat.ne_of_gt (And.left (And.right (And.right (And.right (And.right (And.right ((by assumption))))))))) | exact neN (Nat.ne_of_gt (And.left (And.right (And.right (And.right (And.right (And.right (And.right ((by assumption)))))))))) | exact neN (Nat.ne_of_gt (And.left (And.right (And.right (And.right (And.right (And.right (And.right (And.right ((by assumption))))))))))) | exact neN (Nat.ne_of_gt (And.left (And.right (And.right (And.right (And.right (And.right (And.right (And.right (And.right ((by assumption)))))))))))) | exact neN (Nat.ne_of_gt (And.left (And.right (And.right (And.right (And.right (And.right (And.right (And.right (And.right (And.right ((by assumption))))))))))))) | exact neN (Nat.ne_of_gt (And.left (And.right (And.right (And.right (And.right (And.right (And.right (And.right (And.right (And.right (And.right ((by assumption)))))))))))))) | exact neN (Nat.ne_of_gt (And.left (And.right (And.right (And.right (And.right (And.right (And.right (And.right (And.right (And.right (And.right (And.right ((by assumption))))))))))))))) | exact neN (Nat.ne_of_gt (And.left (And.right (And.right (And.right (And.right (And.right (And.right (And.right (And.right (And.right (And.right (And.right (And.right ((by assumption)))))))))))))))) | exact neN (Nat.ne_of_gt (And.left (And.right (And.right (And.right (And.right (And.right (And.right (And.right (And.right (And.right (And.right (And.right (And.right (And.right ((by assumption))))))))))))))))) | exact neN (Nat.ne_of_gt (And.left (And.right (And.right (And.right (And.right (And.right (And.right (And.right (And.right (And.right (And.right (And.right (And.right (And.right (And.right ((by assumption)))))))))))))))))) | exact neN (Nat.ne_of_gt (And.left (And.right (And.right (And.right (And.right (And.right (And.right (And.right (And.right (And.right (And.right (And.right (And.right (And.right (And.right (And.right ((by assumption))))))))))))))))))) | exact neN (Nat.ne_of_gt (And.left (And.right (And.right (And.right (And.right (And.right (And.right (And.right (And.right (And.right (And.right (And.right (And.right (And.right (And.right (And.right (And.right ((by assumption)))))))))))))))))))) | exact neN (Nat.ne_of_gt (And.left (And.right (And.right (And.right (And.right (And.right (And.right (And.right (And.right (And.right (And.right (And.right (And.right (And.right (And.right (And.right (And.right (And.right ((by assumption))))))))))))))))))))) | exact neN (Nat.ne_of_gt (And.left (And.right (And.right (And.right (And.right (And.right (And.right (And.right (And.right (And.right (And.right (And.right (And.right (And.right (And.right (And.right (And.right (And.right (And.right ((by assumption)))))))))))))))))))))) | exact neN (Nat.ne_of_gt (And.left (And.right (And.right (And.right (And.right (And.right (And.right (And.right (And.right (And.right (And.right (And.right (And.right (And.right (And.right (And.right (And.right (And.right (And.right (And.right ((by assumption))))))))))))))))))))))) | exact neN (Nat.ne_of_gt (And.left (And.right (And.right (And.right (And.right (And.right (And.right (And.right (And.right (And.right (And.right (And.right (And.right (And.right (And.right (And.right (And.right (And.right (And.right (And.right (And.right ((by assumption)))))))))))))))))))))))) | exact neN (Nat.ne_of_gt (And.left (And.right (And.right (And.right (And.right (And.right (And.right (And.right (And.right (And.right (And.right (And.right (And.right (And.right (And.right (And.right (And.right (And.right (And.right (And.right (And.right (And.right ((by assumption))))))))))))))))))))))))) | exact Ne.symm (And.left ((by assumption))) | exact And.left ((by assumption)) | exact Ne.symm (And.left (And.right ((by assumption)))) | exact And.left (And.right ((by assumption))) | exact Ne.symm (And.left (And.right (And.right ((by assumption))))) | exact And.left (And.right (And.right ((by assumption)))) | exact Ne.symm (And.left (And.right (And.right (And.right ((by assumption)))))) | exact And.left (And.right (And.right (And.right ((by assumption))))) | exact Ne.symm (And.left (And.right (And.right (And.right (And.right ((by assumption))))))) | exact And.left (And.right (And.right (And.right (And.right ((by assumption)))))) | exact Ne.symm (And.left (And.right (And.right (And.right (And.right (And.right ((by assumption)))))))) | exact And.left (And.right (And.right (And.right (And.right (And.right ((by assumption))))))) | exact Ne.symm (And.left (And.right (And.right (And.right (And.right (And.right (And.right ((by assumption))))))))) | exact And.left (And.right (And.right (And.right (And.right (And.right (And.right ((by assumption)))))))) | exact Ne.symm (And.left (And.right (And.right (And.right (And.right (And.right (And.right (And.right ((by assumption)))))))))) | exact And.left (And.right (And.right (And.right (And.right (And.right (And.right (And.right ((by assumption))))))))) | exact Ne.symm (And.left (And.right (And.right (And.right (And.right (And.right (And.right (And.right (And.right ((by assumption))))))))))) | exact And.left (And.right (And.right (And.right (And.right (And.right (And.right (And.right (And.right ((by assumption)))))))))) | exact Ne.symm (And.left (And.right (And.right (And.right (And.right (And.right (And.right (And.right (And.right (And.right ((by assumption)))))))))))) | exact And.left (And.right (And.right (And.right (And.right (And.right (And.right (And.right (And.right (And.right ((by assumption))))))))))) | exact Ne.symm (And.left (And.right (And.right (And.right (And.right (And.right (And.right (And.right (And.right (And.right (And.right ((by assumption))))))))))))) | exact And.left (And.right (And.right (And.right (And.right (And.right (And.right (And.right (And.right (And.right (And.right ((by assumption)))))))))))) | exact Ne.symm (And.left (And.right (And.right (And.right (And.right (And.right (And.right (And.right (And.right (And.right (And.right (And.right ((by assumption)))))))))))))) | exact And.left (And.right (And.right (And.right (And.right (And.right (And.right (And.right (And.right (And.right (And.right (And.right ((by assumption))))))))))))) | exact Ne.symm (And.left (And.right (And.right (And.right (And.right (And.right (And.right (And.right (And.right (And.right (And.right (And.right (And.right ((by assumption))))))))))))))) | exact And.left (And.right (And.right (And.right (And.right (And.right (And.right (And.right (And.right (And.right (And.right (And.right (And.right ((by assumption)))))))))))))) | exact Ne.symm (And.left (And.right (And.right (And.right (And.right (And.right (And.right (And.right (And.right (And.right (And.right (And.right (And.right (And.right ((by assumption)))))))))))))))) | exact And.left (And.right (And.right (And.right (And.right (And.right (And.right (And.right (And.right (And.right (And.right (And.right (And.right (And.right ((by assumption))))))))))))))))
  trivial
local macro_rules | `(tactic| lcg_off) => `(tactic| assumption)
theorem lines_Pro3_2 : True := by
  k_with "mine CompRest" => (with_unfolding_all (refine LCg.CompRest.succ ?_; intro v' I' oI' C' oC' D' m' h' tk' E' hv' hC' hx' F' N' off' ne'; have offA := off'; (first | lcg_open hv' | (obtain ⟨t9', hv9'⟩ := hv'; subst hv9')); (try simp only [LCg.Off3, and_true] at off')))
  trivial
set_option maxHeartbeats 1000000 in
theorem law_p3 (w : World) (mean : ExcName → Option Value) (mg mb : Str → Option Value) (h₀ : Heap) (L fa l : Addr) (cd : Value) (vs : List Value) (ns : List Int) (s : Shared) (Q : Flow → Shared → Prop) (pg ps la lb : Int) (ta tb tp tq : Tok) (va vb : Value) (LA ZA : Addr) (n : Nat) (oS oM oL oQ oP o3 o2 : Obj) (v3 v2 : Int) (t3 t2 : Tok) (xS : Option Value) (l0 l1 : Int) (u0 u1 : Tok) (LM : Addr) (nl : Nat) (u : Str → Option Value) :
    ∀ (_B : Below callerA h₀ [] h₀) (_X : (MineH.top.heap_1 w.params).In h₀) (_T : Top MineH.top.view_1 (looseW MineH.top.view_1 []) mean mg mb h₀) (_hl : h₀.IsList l vs.toArray) (_hi : IntsAre vs ns) (_hn : ns.length ≤ 63) (_pg : 3 ≤ pg ∧ pg ≤ 8) (_ps : 2 ≤ ps ∧ ps ≤ 5)
    (_dS : oS.data = .cell xS) (_dM : oM.data = .cell (some (.ref ZA))) (_dL : oL.data = .cell (some (.ref LA))) (_dQ : oQ.data = .cell (some (.int ps tq))) (_dP : oP.data = .cell (some (.int pg tp))) (_d3 : o3.data = .cell (some (.int v3 t3))) (_d2 : o2.data = .cell (some (.int v2 t2)))
    (_F : Fr h₀ L s.heap (fun y => if y = "limits" then some (.ref LM) else if y = "script" then some (.ref l) else u y)) (_N : News h₀ L s.heap ((LM, lstO [.int l0 u0, .int l1 u1] nl) :: [(ZA, lstO [va, vb] n), (LA, lstO [.int la ta, .int lb tb] 0), (L + 1 + 1 + 1 + 1 + 1 + 1 + 1, oS), (L + 1 + 1 + 1 + 1 + 1 + 1, oM), (L + 1 + 1 + 1 + 1 + 1, oL), (L + 1 + 1 + 1 + 1, oQ), (L + 1 + 1 + 1, oP), (L + 1 + 1, o3), (L + 1, o2)])) (_k : K3 w h₀ L fa l cd Q s pg ps la lb ta tb tp tq va vb LA ZA n oM oL oQ oP o3 o2 l0 l1 u0 u1 LM nl),
    wpC (model PySem.Challenge.rw_nm0116_01.row.prog w) (callerA.deeper (lawE L fa cd)) (execs (lawB.drop 8) (lawE L fa cd)) Q (fun _ _ => False) s := by
  k_fill
  intro B X T hl hi hn pg0 ps0 dS dM dL dQ dP d3 d2 F N k
  unfold K3 at k
  have n1 := ne_cell N (.head _) (.tail _ (.tail _ (.tail _ (.head _)))) rfl dS
  have n2 := ne_cell N (.tail _ (.head _)) (.tail _ (.tail _ (.tail _ (.head _)))) rfl dS
  have n3 := ne_cell N (.tail _ (.tail _ (.head _))) (.tail _ (.tail _ (.tail _ (.head _)))) rfl dS
  unfold lawE at *
  conv =>
    enter [3, 1]
    whnf
  generalize hS : lawS = sc at *
  conv at hS =>
    lhs
    whnf
  subst hS
  refine wpC_execs_consA ?_
  k_steps
  refine wpC_execs_consA ?_
  k_steps
  refine wpC_execs_consA ?_
  k_steps
  rename IntsAre _ (List.take 5 _) => q0
  rename IntsAre _ (List.drop 5 _) => q1
  obtain ⟨g0, r0, r1⟩ := seg_of q0 (octL_take octL_fm 5) (by simp only [List.length_take, List.length_map, rangeKs_length]; decide)
  obtain ⟨g1, r2, r3⟩ := seg_of q1 (octL_drop octL_fm 5) (by simp only [List.length_drop, List.length_map, rangeKs_length]; decide)
  refine' k _ _ _ _ _ _ _ _ _ _ _ _ _ _ _ _ _ _ _ _ _ _ g0 g1 _ _ _ _ _ _ _ ?hf ?dS r0 r2 r1 r3 ?F ?N
  case N => exact News.perm (by assumption) permSeg
  case F => exact frPin3 (by assumption) rfl rfl rfl
  case hf => exact rfl
  case dS => assumption
end Mine
end
section
open PySem PySem.W PyProof.Rows PySem.Calls
set_option Elab.async false
namespace Mine
theorem plain_Pro4 : True := by
  w_top off
  k_with_none
  trivial
set_option maxRecDepth 100000
theorem lenFit4 {ns : List Int} (h : ns.length ≤ 63) : ns.length < 2 ^ 62 := Nat.lt_of_le_of_lt h (by decide)
theorem lines_Pro4_0 : True := by
  w_top off
  k_with_none
  k_with "mine call ref" => (k_here; (with_reducible show wpAny _ _ (call (Value.ref 218) [Value.ref _, Value.int _ _]) _ _ _); k_dflt (refine' cellTells_use ?B ?F ?X ?N ?T ?k ?l ?i ?f ?z (digit_tells _ _ _ _) ?d ?u ?_); (case B => k_asm); (case F => k_asm); (case X => k_asm); (case N => k_asm); (case T => k_asm); (case k => k_dflt (exact rfl)); (case l => assumption); (case i => assumption); (case f => exact lenFit4 (by assumption)); (case z => first | decide | omega); (case d => ktr_room); (case u => ktr_units); k_whole; intro t' h' tk' F' N')
  k_with "mine call ref" => (k_here; (with_reducible show wpAny _ _ (call (Value.ref 259) [Value.int _ _, Value.ref _]) _ _ _); k_dflt (refine' CallsTA.use (refused_calls _ _ _ _ _ _ _ _ _ _ _ _ _ _ _ _ _ _ _ _ _ _ ?z1 _ _ ?z2 _) ?B ?F ?X ?N ?T ?k ?d ?u ?_); (case B => k_asm); (case F => k_asm); (case X => k_asm); (case N => exact news_dup2 (by k_asm) (by k_dflt k_mem) (by k_dflt k_mem)); (case T => k_asm); (case k => k_dflt (exact rfl)); (case d => ktr_room); (case u => ktr_units); (case z1 => first | assumption | exact rfl); (case z2 => (first | omega | (split <;> omega))); k_whole; intro r n' h' tk' hP F' N'; obtain ⟨hr, hn⟩ := hP; subst hr; subst hn)
  trivial

def K4 (w : World) (h₀ : Heap) (L fa l : Addr) (cd : Value) (Q : Flow → Shared → Prop) (s : Shared) (k : Nat) (LM SG : Addr) (led : List (Addr × Obj)) (u : Str → Option Value) : Prop :=
  ∀ (h' : Heap) (tk : Nat),
    Fr h₀ L h' (fun y => if y = "segments" then some (.ref SG) else if y = "limits" then some (.ref LM) else if y = "script" then some (.ref l) else u y) →
    News h₀ L h' led →
    wpC (model PySem.Challenge.rw_nm0116_01.row.prog w) (callerA.deeper (lawE L fa cd)) (execs (lawB.drop k) (lawE L fa cd)) Q (fun _ _ => False) { s with heap := h', toks := tk }

set_option maxHeartbeats 1000000 in
theorem law_p4 (w : World) (mean : ExcName → Option Value) (mg mb : Str → Option Value) (h₀ : Heap) (L fa l : Addr) (cd : Value) (vs : List Value) (ns : List Int) (s : Shared) (Q : Flow → Shared → Prop) (pg ps la lb : Int) (ta tb tp tq : Tok) (va vb : Value) (LA ZA : Addr) (n : Nat) (oM oL oQ oP o3 o2 : Obj) (v3 : Int) (t3 : Tok) (l0 l1 : Int) (u0 u1 : Tok) (LM : Addr) (nl : Nat) (sz dz SG s0 s1 : Addr) (H1 H2 H3 H4 H5 : Int) (e1 e2 e3 e4 e5 te td : Tok) (el de : Int) (fu : Value) (ss0 ss1 : List Value) (i0 i1 ng : Nat) (oS : Obj) (u : Str → Option Value) :
    ∀ (_B : Below callerA h₀ [] h₀) (_X : (MineH.top.heap_1 w.params).In h₀) (_T : Top MineH.top.view_1 (looseW MineH.top.view_1 []) mean mg mb h₀) (_hl : h₀.IsList l vs.toArray) (_hi : IntsAre vs ns) (_hn : ns.length ≤ 63) (_pg : 3 ≤ pg ∧ pg ≤ 8) (_ps : 2 ≤ ps ∧ ps ≤ 5) (_fu : handedIn fu = true)
    (_dS : oS.data = .cell (some (.ref sz))) (_dM : oM.data = .cell (some (.ref ZA))) (_dL : oL.data = .cell (some (.ref LA))) (_dQ : oQ.data = .cell (some (.int ps tq))) (_dP : oP.data = .cell (some (.int pg tp))) (_d3 : o3.data = .cell (some (.int v3 t3)))
    (_F : Fr h₀ L s.heap (fun y => if y = "segments" then some (.ref SG) else if y = "limits" then some (.ref LM) else if y = "script" then some (.ref l) else u y)) (_N : News h₀ L s.heap ((sz, instObj 207 dz) :: (dz, szD H1 H2 H3 H4 H5 e1 e2 e3 e4 e5 pg ps el de tp tq te td fu) :: (SG, lstO [.ref s0, .ref s1, .none] ng) :: (s0, lstO ss0 i0) :: (s1, lstO ss1 i1) :: (LM, lstO [.int l0 u0, .int l1 u1] nl) :: [(ZA, lstO [va, vb] n), (LA, lstO [.int la ta, .int lb tb] 0), (L + 1 + 1 + 1 + 1 + 1 + 1 + 1, oS), (L + 1 + 1 + 1 + 1 + 1 + 1, oM), (L + 1 + 1 + 1 + 1 + 1, oL), (L + 1 + 1 + 1 + 1, oQ), (L + 1 + 1 + 1, oP), (L + 1 + 1, o3), (L + 1, o2)])) (_k : K4 w h₀ L fa l cd Q s 12 LM SG ((sz, instObj 207 dz) :: (dz, szD H1 H2 H3 H4 H5 e1 e2 e3 e4 e5 pg ps el de tp tq te td fu) :: (SG, lstO [.ref s0, .ref s1, .none] ng) :: (s0, lstO ss0 i0) :: (s1, lstO ss1 i1) :: (LM, lstO [.int l0 u0, .int l1 u1] nl) :: [(ZA, lstO [va, vb] n), (LA, lstO [.int la ta, .int lb tb] 0), (L + 1 + 1 + 1 + 1 + 1 + 1 + 1, oS), (L + 1 + 1 + 1 + 1 + 1 + 1, oM), (L + 1 + 1 + 1 + 1 + 1, oL), (L + 1 + 1 + 1 + 1, oQ), (L + 1 + 1 + 1, oP), (L + 1 + 1, o3), (L + 1, o2)]) u),
    wpC (model PySem.Challenge.rw_nm0116_01.row.prog w) (callerA.deeper (lawE L fa cd)) (execs (lawB.drop 11) (lawE L fa cd)) Q (fun _ _ => False) s := by
  k_fill
  intro B X T hl hi hn pg0 ps0 hfu dS dM dL dQ dP d3 F N k
  unfold K4 at k
  unfold lawE at *
  conv =>
    enter [3, 1]
    whnf
  generalize hS : lawS = sc at *
  conv at hS =>
    lhs
    whnf
  subst hS
  refine wpC_execs_cons (wpC_If ?_)
  k_steps
  refine wpC_execs_nil ?_
  exact k _ _ (by assumption) (by assumption)
end Mine
end
section
open PySem PySem.W PyProof.Rows PySem.Calls PyProof.Rows.LCg
set_option Elab.async false
namespace Mine
set_option maxRecDepth 100000
/-- a range's iterator at its turn i of n -/
abbrev ritO (n i : Nat) : Obj := { cls := .type "range_iterator", data := .fields #[rawInt (0 + (i : Int) * 1), rawInt ((n : Int) - (i : Int)), rawInt 1] }
section
variable {prog : Program} {w : World} {A : Around} {E : Value → Shared → Prop} {R : Result → Shared → Prop} {s : Shared} {env : Env}
theorem wpC_noted {m : Sem Fin} {Q : Fin → Shared → Prop} (h : wpC (model prog w) A m Q (fun _ _ => False) s) : wpC (model prog w) A (m.onRaise fun x => do noteFrame x env; theTreesLotGoes x) Q E s :=
  wpC_onRaise (wpC_mono h (fun _ _ q => q) fun _ _ hx => hx.elim)
theorem codeC_block {stmts : List Stmt}
    (h : wpC (model prog w) A (execs stmts env) (fun f s' => R (.ok f) s') (fun _ _ => False) s) : codeC (model prog w) A (.block stmts env) R s := by
  refine codeC_of_tree rfl ?_
  show wpC _ _ (do return Fin.done (← (execs stmts env).onRaise (fun x => do noteFrame x env; theTreesLotGoes x))) _ _ s
  exact wpC_bind (wpC_onRaise (wpC_mono h (fun f s' h' => wpC_pure h') fun _ _ h' => h'.elim))
/-- one turn of a written for, its body walked over clean stacks -/
theorem for_turn {target : Expr} {it : Value} {body orelse : List Stmt}
    (h : wpAny (model prog w) A (pyNext it) (fun r s₁ => match r with
      | none => wpC (model prog w) A (execs orelse env) (fun f s₃ => R (.ok f) s₃) (fun _ _ => False) s₁
      | some v => wpAny (model prog w) A (assign target env v) (fun _ s₂ => wpC (model prog w) A (execs body env)
          (fun f s₃ => f = .next ∧ codeC (model prog w) A (.forLoop target it body orelse env) R s₃) (fun _ _ => False) s₂) (fun _ _ => False) s₁) (fun _ _ => False) s)
    (ht : ∀ v, letOwnedTupleGo target it v = pure () := by intro _; rfl) : codeC (model prog w) A (.forLoop target it body orelse env) R s := by
  refine codeC_of_tree rfl (wpC_noted (m := forTurn target it body orelse env) ?_)
  unfold forTurn
  refine wpC_bindA (wpAny_standAt (wpC_bindA (wpAny_onRaise (wpAny_mono h (fun r s₁ h₁ => ?_) fun _ _ x => x.elim))))
  match r, h₁ with
  | none, h₁ => exact wpC_pure ⟨rfl, codeC_block h₁⟩
  | some v, h₁ =>
    refine wpC_bindA (wpAny_of_eq (ht v) (wpC_bindA (wpAny_mono h₁ (fun _ s₂ h₂ => wpC_bind (wpC_mono h₂ (fun f s₃ h₃ => ?_) fun _ _ x => x)) fun _ _ x => x.elim)))
    obtain ⟨rfl, h₃⟩ := h₃
    exact wpC_pure ⟨rfl, h₃⟩
theorem wpC_For {target iter : Expr} {body orelse : List Stmt} {pos : Pos} {Q : Flow → Shared → Prop}
    (h : wpAny (model prog w) A (eval iter env) (fun x s₁ => wpAny (model prog w) A (pyIter x) (fun it s₂ =>
      codeC (model prog w) A (.forLoop target it body orelse env) (fun r s' => match r with | .ok f => Q f s' | .error _ => False) s₂) (fun _ _ => False) s₁) (fun _ _ => False) s)
    (hs : ∀ x, foldedSetIterable iter env x = pure x := by intro _; rfl) :
    wpC (model prog w) A (exec (.For target iter body orelse pos) env) Q (fun _ _ => False) s := by
  rw [exec_For]
  refine wpC_bindA (wpAny_standAt (wpC_bindA (wpAny_mono h (fun x s₁ h₁ => wpC_bindA (wpAny_of_eq (hs x) (wpC_bindA (wpAny_standAt (wpC_bindA (wpAny_holding
    (wpAny_mono h₁ (fun it s₂ h₂ => ?_) fun _ _ h' => h'))))))) fun _ _ h' => h')))
  unfold runOwn
  refine wpC_onRaise (wpC_run (h := none) (codeC_mono (show codeC (model prog w) A _ _ _ from h₂) fun r s' hr => ?_))
  cases r with
  | ok f => exact hr
  | error e => exact hr.elim
/-- a written for over range(n): Inv speaks of the frame's map and of the ledger -/
theorem wpC_For_range {x : Str} {px pos : Pos} {iter : Expr} {body : List Stmt} {Q : Flow → Shared → Prop} {h₀ : Heap} {L : Addr} {n : Nat}
    (Inv : Nat → (Str → Option Value) → List (Addr × Obj) → Prop) (hh : A.handled = none) (hL : env.locals = L)
    (hkv : env.kindOf x = some .local) (hp : (env.scope.kind == .class || (env.scope.kind == .module && env.locals != env.globals)) = false)
    (h : wpAny (model prog w) A (eval iter env) (fun xv s₁ => ∃ r t u v m news h₁ tk, xv = .ref r ∧ s₁ = { s with heap := h₁, toks := tk } ∧ IsRange h₁ r 0 (n : Int) 1 t u v ∧ Builtin.Range.small 0 (n : Int) 1 = true ∧ Builtin.Range.rangeSize 0 (n : Int) 1 = (n : Int) ∧
      Fr h₀ L h₁ m ∧ News h₀ L h₁ news ∧ Inv 0 m news) (fun _ _ => False) s)
    (turn : ∀ i m news I oI h tk t, i < n → Inv i m news → Fr h₀ L h (fun z => if z = x then some (.int (i : Int) t) else m z) → News h₀ L h ((I, oI) :: news) → (∀ p ∈ news, @Ne Nat p.1 I) → (∃ d, oI.data = .fields d) →
      wpC (model prog w) A (execs body env) (fun f s₃ => f = .next ∧ ∃ m' news' h' tk', s₃ = { s with heap := h', toks := tk' } ∧ Fr h₀ L h' m' ∧ News h₀ L h' ((I, oI) :: news') ∧ (∀ p ∈ news', @Ne Nat p.1 I) ∧ Inv (i + 1) m' news') (fun _ _ => False) { s with heap := h, toks := tk })
    (after : ∀ m news h tk, Inv n m news → Fr h₀ L h m → News h₀ L h news → Q .next { s with heap := h, toks := tk })
    (hs : ∀ x, foldedSetIterable iter env x = pure x := by intro _; rfl) :
    wpC (model prog w) A (exec (.For (.Name x px) iter body [] pos) env) Q (fun _ _ => False) s := by
  subst hL
  refine wpC_For (wpAny_mono h (fun xv s₁ h₁ => ?_) fun _ _ e => e) hs
  obtain ⟨r, t, u, v, m, news, H₁, tk, rfl, rfl, hr, hsm, hn, F, N, hI⟩ := h₁
  refine wpAny_pyIter_range hr hsm ?_
  have W := range_walks (prog := prog) (w := w) (I := H₁.objs.size) hh 0 n
  have hI₀ : h₀.get? H₁.objs.size = none := next_is_new F
  have hIL : env.locals ≠ H₁.objs.size := Nat.ne_of_lt F.ns.lt
  have all : ∀ k i m' news' h' tk', i + k = n → h'.get? H₁.objs.size = some (ritO n i) → Fr h₀ env.locals h' m' → News h₀ env.locals h' news' → (∀ p ∈ news', @Ne Nat p.1 H₁.objs.size) → Inv i m' news' →
      codeC (model prog w) A (.forLoop (.Name x px) (.ref H₁.objs.size) body [] env) (fun r s' => match r with | .ok f => Q f s' | .error _ => False) { s with heap := h', toks := tk' } := by
    intro k
    induction k with
    | zero =>
      intro i m' news' h' tk' hi hst F' N' off hInv
      obtain rfl : i = n := hi
      exact for_turn (W.done _ _ _ hst fun h₂ tk₂ hk₂ => wpC_execs_nil (after m' news' h₂ tk₂ hInv (fr_but F' hk₂ hIL hI₀) (news_but N' hk₂ off)))
    | succ k ih =>
      intro i m' news' h' tk' hi hst F' N' off hInv
      have hlt : i < n := by omega
      refine for_turn (W.item i _ _ _ hlt hst fun v h₂ tk₂ hP hst₂ hk₂ => ?_)
      obtain ⟨tv, rfl⟩ := hP
      rw [Int.zero_add]
      have F₂ := fr_but F' hk₂ hIL hI₀
      have N₂ := news_but N' hk₂ off
      refine wpAny_assign_Name (wpAny_storeName_local hkv F₂.ns (fun h₃ hn₃ hs₃ => ?_) hp)
      have hI₃ : h₃.get? H₁.objs.size = some (ritO n (i + 1)) := hs₃.extBut _ _ (Ne.symm hIL) hst₂
      refine wpC_mono (turn i m' news' H₁.objs.size (ritO n (i + 1)) h₃ _ _ hlt hInv (F₂.set hn₃ hs₃) (fun p hp => ?_) off ⟨_, rfl⟩) (fun f s₃ h₃' => ?_) fun _ _ e => e
      · cases hp with
        | head => exact ⟨hI₃, Ne.symm hIL, hI₀⟩
        | tail _ hp => exact N₂.set hs₃ p hp
      · obtain ⟨rfl, m4, news4, h4, tk4, rfl, F4, N4, off4, I4⟩ := h₃'
        exact ⟨rfl, ih (i + 1) m4 news4 h4 tk4 (by omega) (N4 _ List.mem_cons_self).1 F4 (fun p hp => N4 p (List.mem_cons_of_mem _ hp)) off4 I4⟩
  refine all n 0 m news _ _ (Nat.zero_add n) ?_ (F.keeps fun _ _ e => Heap.get?_push_of_some _ e) (N.grown fun _ _ e => Heap.get?_push_of_some _ e) (fun p hp => Nat.ne_of_lt (Heap.lt_size (N p hp).1)) hI
  show IsRangeIter _ _ _ _ _
  rw [hn]; simpa using Heap.get?_push_size _ rfl
end
end Mine
end
section
open PySem PySem.W PyProof.Rows PySem.Calls PyProof.Rows.LCg
set_option Elab.async false
namespace Mine
set_option maxRecDepth 100000
/-- the ledger's first entry is written anew, the others lie off it -/
theorem led_first {h₀ h h' : Heap} {L X : Addr} {o o' : Obj} {news : List (Addr × Obj)} (N : News h₀ L h ((X, o) :: news)) (off : ∀ p ∈ news, p.1 ≠ X)
    (hk : ∀ b x, b ≠ X → h.get? b = some x → h'.get? b = some x) (e : h'.get? X = some o') : News h₀ L h' ((X, o') :: news) := by
  intro p hp
  cases hp with
  | head => exact ⟨e, (N _ (.head _)).2⟩
  | tail _ hp => exact ⟨hk _ _ (off p hp) (N p (.tail _ hp)).1, (N p (.tail _ hp)).2⟩
theorem led_turn {h₀ h : Heap} {L : Addr} {a b c : Addr × Obj} {news : List (Addr × Obj)} (N : News h₀ L h (a :: b :: c :: news)) : News h₀ L h (b :: a :: c :: news) := fun p hp =>
  N p (by simp only [List.mem_cons] at hp ⊢; rcases hp with h | h | h | h <;> simp only [h, true_or, or_true])
theorem led_third {h₀ h : Heap} {L : Addr} {a b c : Addr × Obj} {news : List (Addr × Obj)} (N : News h₀ L h (a :: b :: c :: news)) : News h₀ L h (c :: a :: b :: news) := fun p hp =>
  N p (by simp only [List.mem_cons] at hp ⊢; rcases hp with h | h | h | h <;> simp only [h, true_or, or_true])
theorem led_back {h₀ h : Heap} {L : Addr} {a b c : Addr × Obj} {news : List (Addr × Obj)} (N : News h₀ L h (c :: a :: b :: news)) : News h₀ L h (a :: b :: c :: news) := fun p hp =>
  N p (by simp only [List.mem_cons] at hp ⊢; rcases hp with h | h | h | h <;> simp only [h, true_or, or_true])
theorem off_two {X : Addr} {a b : Addr × Obj} {news : List (Addr × Obj)} (h1 : a.1 ≠ X) (h2 : b.1 ≠ X) (h : ∀ p ∈ news, p.1 ≠ X) : ∀ p ∈ a :: b :: news, p.1 ≠ X := fun p hp => by
  cases hp with
  | head => exact h1
  | tail _ hp => cases hp with
    | head => exact h2
    | tail _ hp => exact h p hp
section
variable {prog : Program} {w : World} {A : Around} {R : Result → Shared → Prop} {s : Shared} {env : Env}
/-- one turn of a list comprehension without tests, its element walked over clean stacks -/
theorem comp_turn {elt target iter : Expr} {scope : Scope} {pos : Pos} {it acc : Value}
    (h : wpAny (model prog w) A (pyNext it) (fun r s₁ => match r with
      | none => R (.ok .next) s₁
      | some v => wpAny (model prog w) A (assign target env v) (fun _ s₂ => wpC (model prog w) A (eval elt env) (fun y s₃ => wpAny (model prog w) A (call (.builtin "list.append") [acc, y])
          (fun _ s₄ => codeC (model prog w) A (.compLoop (.ListComp elt [⟨target, iter, [], 0⟩] scope pos) 0 it acc env) R s₄) (fun _ _ => False) s₃) (fun _ _ => False) s₂) (fun _ _ => False) s₁) (fun _ _ => False) s)
    (ht : ∀ v, letOwnedTupleGo target it v = pure () := by intro _; rfl) :
    codeC (model prog w) A (.compLoop (.ListComp elt [⟨target, iter, [], 0⟩] scope pos) 0 it acc env) R s := by
  refine codeC_of_tree rfl (wpC_noted (m := compTurn (.ListComp elt [⟨target, iter, [], 0⟩] scope pos) 0 it acc env) ?_)
  rw [compTurn_list1]
  refine wpC_bindA (wpAny_standAt (wpC_bindA (wpAny_mono h (fun r s₁ h₁ => ?_) fun _ _ x => x)))
  match r, h₁ with
  | none, h₁ => exact wpC_pure h₁
  | some v, h₁ =>
    have go : ∀ {y : Value} {s₃ : Shared}, wpAny (model prog w) A (call (.builtin "list.append") [acc, y]) (fun _ s₄ => codeC (model prog w) A (.compLoop (.ListComp elt [⟨target, iter, [], 0⟩] scope pos) 0 it acc env) R s₄) (fun _ _ => False) s₃ →
        wpC (model prog w) A (call (.builtin "list.append") [acc, y] >>= fun _ => pure ()) (fun _ s₄ => codeC (model prog w) A (.compLoop (.ListComp elt [⟨target, iter, [], 0⟩] scope pos) 0 it acc env) R s₄) (fun _ _ => False) s₃ :=
      fun h₃ => wpC_bindA (wpAny_mono h₃ (fun _ _ h₄ => wpC_pure h₄) fun _ _ x => x)
    exact wpC_bindA (wpAny_of_eq (ht v) (wpC_bindA (wpAny_mono h₁ (fun _ _ h₂ => wpC_bind (wpC_mono (wpC_bind (wpC_mono h₂ (fun _ _ h₃ => go h₃) fun _ _ x => x)) (fun _ _ h₄ => wpC_pure ⟨rfl, h₄⟩) fun _ _ x => x)) fun _ _ x => x)))
/-- where the loop starts: its iterator hands itself on -/
theorem comp_start {elt target iter : Expr} {scope : Scope} {pos : Pos} {it acc : Value}
    (h : codeC (model prog w) A (.compLoop (.ListComp elt [⟨target, iter, [], 0⟩] scope pos) 0 it acc env) R s)
    (hi : ∀ Q : Value → Shared → Prop, Q it s → wpAny (model prog w) A (pyIter it) Q (fun _ _ => False) s) :
    codeC (model prog w) A (.compStart (.ListComp elt [⟨target, iter, [], 0⟩] scope pos) 0 it acc env) R s := by
  refine codeC_of_tree rfl ?_
  show wpC _ _ ((compStart (.ListComp elt [⟨target, iter, [], 0⟩] scope pos) 0 it acc env).onRaise _) _ _ s
  refine wpC_onRaise (wpC_mono (E := fun _ _ => False) ?_ (fun _ _ q => q) fun _ _ x => x.elim)
  unfold compStart
  refine wpC_bindA (m := ask) (wpAny_askSetting ?_)
  dsimp only
  split
  · first
      | exact wpC_pure (And.intro rfl h)
      | exact wpC_bind (wpC_pure (wpC_pure (And.intro rfl h)))
  · refine wpC_bind ?_
    first
      | exact wpC_bindA (wpAny_rule (wpC_bindA (wpAny_standAt (wpC_bindA (hi _ (wpC_pure (wpC_pure (And.intro rfl h))))))))
      | exact wpC_of (wpAny_rule (wpC_bindA (wpAny_standAt (wpC_bindA (hi _ (wpC_pure (And.intro rfl h)))))))
end
section
variable {prog : Program} {w : World} {A : Around} {R : Result → Shared → Prop} {s : Shared} {env : Env} {h₀ : Heap} {L I C D : Addr} {m : Str → Option Value} {n : Nat}
/-- all turns from the turn i on, by induction over those that are left -/
theorem comp_turns {elt iter : Expr} {x : Str} {px : Pos} {scope : Scope} {cl : List (Str × Addr)} {pos : Pos} (Inv : Nat → List Value → List (Addr × Obj) → Prop)
    (hh : A.handled = none) (hkind : scope.kind = .function) (hx : scope.names.lookup x = some .local) (hsz : n ≤ sizeLine) (nIC : I ≠ C) (nID : I ≠ D) (nCD : C ≠ D)
    (turn : ∀ i ys news oI oC mC h tk t, i < n → Inv i ys news → NsObj oC mC → mC x = some (.int (i : Int) t) → Fr h₀ L h m → News h₀ L h ((I, oI) :: (C, oC) :: (D, lst ys) :: news) → Off3 I C D news →
      wpC (model prog w) A (eval elt (compEnvC scope cl C env)) (CompEnd h₀ L m { s with heap := h, toks := tk } I oI C oC D (lst ys) (fun _ => True) fun y news' => Inv (i + 1) (ys ++ [y]) news') (fun _ _ => False) { s with heap := h, toks := tk })
    (last : ∀ ys news oC mC h tk, Inv n ys news → NsObj oC mC → Fr h₀ L h m → News h₀ L h ((C, oC) :: (D, lst ys) :: news) → Off3 I C D news → R (.ok .next) { s with heap := h, toks := tk }) :
    ∀ k i ys news oC mC h tk, i + k = n → ys.length = i → Inv i ys news → NsObj oC mC → Fr h₀ L h m → News h₀ L h ((I, ritO n i) :: (C, oC) :: (D, lst ys) :: news) → Off3 I C D news →
      codeC (model prog w) A (.compLoop (.ListComp elt [⟨.Name x px, iter, [], 0⟩] scope pos) 0 (.ref I) (.ref D) (compEnvC scope cl C env)) R { s with heap := h, toks := tk } := by
  have W := range_walks (prog := prog) (w := w) (I := I) hh 0 n
  intro k
  induction k with
  | zero =>
    intro i ys news oC mC h tk hi _ hI hoC F N off
    obtain rfl : i = n := hi
    have hN := N _ (.head _)
    have oI : ∀ p ∈ (C, oC) :: (D, lst ys) :: news, p.1 ≠ I := off_two (Ne.symm nIC) (Ne.symm nID) fun p hp => (off.mem p hp).1
    exact comp_turn (W.done _ _ _ hN.1 fun h₂ tk₂ hk => last ys news oC mC h₂ tk₂ hI hoC (fr_but F hk (Ne.symm hN.2.1) hN.2.2) (news_but (fun p hp => N p (.tail _ hp)) hk oI) off)
  | succ k ih =>
    intro i ys news oC mC h tk hi hy hI hoC F N off
    have hN := N _ (.head _)
    have hC := N (C, oC) (.tail _ (.head _))
    have hD := N (D, lst ys) (.tail _ (.tail _ (.head _)))
    refine comp_turn (W.item i _ _ _ (by omega) hN.1 fun v h₂ tk₂ hv hit hk => ?_)
    obtain ⟨t, rfl⟩ := hv
    rw [Int.zero_add]
    have hk' : ∀ b o, b ≠ I → h.get? b = some o → h₂.get? b = some o := fun b o hb e => hk b o (fun q => hb (List.mem_singleton.mp q)) e
    have F₂ := fr_but F hk (Ne.symm hN.2.1) hN.2.2
    have N₂ : News h₀ L h₂ ((I, ritO n (i + 1)) :: (C, oC) :: (D, lst ys) :: news) := led_first N (off_two (Ne.symm nIC) (Ne.symm nID) fun p hp => (off.mem p hp).1) hk' hit
    refine wpAny_assign_Name (wpAny_storeName_local (lookup_relabel_local hx) (hoC.ns (N₂ (C, oC) (.tail _ (.head _))).1) (fun h₃ hn₃ hs₃ => ?_) (by simp [compEnvC, relabel, hkind]))
    obtain ⟨oC', eC, hoC'⟩ := ns_obj hn₃
    have N₃ := led_turn (led_first (led_turn N₂) (off_two nIC (Ne.symm nCD) fun p hp => (off.mem p hp).2.1) (fun b o hb e => hs₃.extBut b o hb e) eC)
    refine wpC_mono (turn i ys news _ oC' _ h₃ _ t (by omega) hI hoC' (by simp) (F₂.change hs₃ hC.2.1 hC.2.2) N₃ off) (fun y s₄ h₄ => ?_) fun _ _ e => e
    obtain ⟨h₄, tk₄, news₄, rfl, F₄, N₄, off₄, _, I₄⟩ := h₄
    refine append_at (N₄ (D, lst ys) (.tail _ (.tail _ (.head _)))).1 (fun h₅ hs₅ hD₅ => ?_) (by show ys.toArray.size ≤ sizeLine; rw [List.size_toArray, hy]; omega)
    have N₅ := led_back (led_first (led_third N₄) (off_two nID nCD fun p hp => (off₄.mem p hp).2.2) (fun b o hb e => hs₅.extBut b o hb e) (hD₅.trans (congrArg some (lst_snoc ys y))))
    exact ih (i + 1) (ys ++ [y]) news₄ oC' _ h₅ tk₄ (by omega) (by simp [hy]) I₄ hoC' (F₄.change hs₅ hD.2.1 hD.2.2) N₅ off₄
/-- «y = [elt for x in range(n)]»: Inv speaks of the items made so far and of the ledger -/
theorem wpC_Comp_range {elt iter : Expr} {x y : Str} {px py pos spos : Pos} {scope : Scope} {cl : List (Str × Addr)} {Q : Flow → Shared → Prop} (Inv : Nat → List Value → List (Addr × Obj) → Prop) (_F₀ : Fr h₀ L s.heap m) (hh : A.handled = none) (hL : env.locals = L)
    (hsw : swapsWith (.ListComp elt [⟨.Name x px, iter, [], 0⟩] scope pos) (some (.Name y py)) spos.line env = pure true) (hclos : closureFor scope env = pure cl)
    (hcell : ∀ z ∈ scope.names, z.2 ≠ .cell) (hkind : scope.kind = .function) (hnames : ∀ z ∈ scope.names, z.2 = .local → scope.names.lookup z.1 = some .local) (hx : scope.names.lookup x = some .local)
    (hy : env.kindOf y = some .local) (hp : (env.scope.kind == .class || (env.scope.kind == .module && env.locals != env.globals)) = false) (hs : ∀ v, foldedSetIterable iter env v = pure v) (hsz : n ≤ sizeLine)
    (h : wpAny (model prog w) A (eval iter env) (fun xv s₁ => ∃ r t u v news h₁ tk, xv = .ref r ∧ s₁ = { s with heap := h₁, toks := tk } ∧ IsRange h₁ r 0 (n : Int) 1 t u v ∧ Builtin.Range.small 0 (n : Int) 1 = true ∧ Builtin.Range.rangeSize 0 (n : Int) 1 = (n : Int) ∧
      Fr h₀ L h₁ m ∧ News h₀ L h₁ news ∧ Inv 0 [] news) (fun _ _ => False) s)
    (turn : ∀ I C D i ys news oI oC mC h tk t, @Ne Nat I C → @Ne Nat I D → @Ne Nat C D → i < n → Inv i ys news → NsObj oC mC → mC x = some (.int (i : Int) t) → Fr h₀ L h m → News h₀ L h ((I, oI) :: (C, oC) :: (D, lst ys) :: news) → Off3 I C D news →
      wpC (model prog w) A (eval elt (compEnvC scope cl C env)) (CompEnd h₀ L m { s with heap := h, toks := tk } I oI C oC D (lst ys) (fun _ => True) fun y news' => Inv (i + 1) (ys ++ [y]) news') (fun _ _ => False) { s with heap := h, toks := tk })
    (after : ∀ D ys news h tk, Inv n ys news → Fr h₀ L h (fun z => if z = y then some (.ref D) else m z) → News h₀ L h ((D, lst ys) :: news) → (∀ p ∈ news, p.1 ≠ D) → Q .next { s with heap := h, toks := tk }) :
    wpC (model prog w) A (exec (.Assign [.Name y py] (.ListComp elt [⟨.Name x px, iter, [], 0⟩] scope pos) spos) env) Q (fun _ _ => False) s := by
  subst hL
  rw [exec_Assign_Name_used _ _ _ _ hsw]
  refine wpC_bindA (wpAny_standAt (wpC_bind ?_))
  show wpC _ A (comprehension (.ListComp elt [⟨.Name x px, iter, [], 0⟩] scope pos) scope env _ (newList []) false (eval iter env) (some (assign (.Name y py) env)) >>= fun _ => _) _ _ s
  refine wpC_bind (wpC_mono (Q := fun _ s' => Q .next s') ?_ (fun _ _ hq => wpC_pure (wpC_pure hq)) fun _ _ e => e)
  unfold comprehension
  rw [hclos]
  refine wpC_bindA (wpAny_mono h (fun xv s₁ h₁ => ?_) fun _ _ e => e)
  obtain ⟨r, t, u, v, news, H, tk, rfl, rfl, hr, hsm, hn, F, N, hI⟩ := h₁
  refine wpC_bindA (wpAny_standAt (wpC_bindA (wpAny_of_eq (hs _) (wpC_bindA (wpAny_holding (wpAny_pyIter_range hr hsm ?_))))))
  rw [show ({ cls := .type "range_iterator", data := .fields #[rawInt 0, rawInt (Builtin.Range.rangeSize 0 (n : Int) 1), rawInt 1] } : Obj) = ritO n 0 by rw [hn]; simp [ritO]]
  refine wpC_ifP rfl (wpC_bindA (wpAny_standAt (wpC_bindA (wpAny_newObj_type (wpC_bindA (wpAny_pure (wpC_bindA (wpAny_newFunctionEnv hcell (fun z hz => nomatch hz) (fun h₁ hns hsb => ?_) hkind))))))))
  have F₁ := F.push (ritO n 0)
  have N₁ := N.push F (ritO n 0)
  have F₂ := F₁.push (lst [])
  have N₂ := N₁.push F₁ (lst [])
  have a₁ := N.apart
  have a₂ := N₁.apart
  have a₃ := N₂.apart
  obtain ⟨oC, eC, hoC⟩ := ns_obj hns
  have N₃ := N₂.push F₂ { cls := .type "dict", data := .dict #[] }
  have hC := N₃ _ (.head _)
  have N₄ := led_first N₃ a₃ (fun b o hb e => hsb.extBut b o hb e) eC
  have F₄ := (F₂.push { cls := .type "dict", data := .dict #[] }).change hsb hC.2.1 hC.2.2
  have N₅ := led_third N₄
  have nIC := a₃ _ (.tail _ (.head _))
  have nDC := a₃ _ (.head _)
  have nDI := (a₂ _ (.head _)).symm
  have off : Off3 _ _ _ news := Off3.of fun p hp => ⟨a₁ p hp, a₃ p (.tail _ (.tail _ hp)), a₂ p (.tail _ hp)⟩
  generalize H.objs.size = I at *
  generalize (H.push (ritO n 0)).objs.size = D at *
  generalize ((H.push (ritO n 0)).push (lst [])).objs.size = C at *
  clear hns hsb N₃ hC N₄ F₂ N₂
  dsimp only
  refine wpC_holding (wpC_bind (wpC_attempt (wpC_holding (wpC_run (h := none) (codeC_mono (R := fun r s' => match r with
    | .ok _ => ∃ ys news oC mC h tk, s' = { s with heap := h, toks := tk } ∧ Inv n ys news ∧ NsObj oC mC ∧ Fr h₀ env.locals h m ∧ News h₀ env.locals h ((C, oC) :: (D, lst ys) :: news) ∧ Off3 I C D news
    | .error _ => False) ?_ fun r s' hr => ?_)))))
  · show codeC (model prog w) A (.compStart (.ListComp elt [⟨.Name x px, iter, [], 0⟩] scope pos) 0 (.ref I) (.ref D) (compEnvC scope cl C env)) _ { s with heap := h₁, toks := _ }
    refine comp_start (comp_turns Inv hh hkind hx hsz nIC (Ne.symm nDI) (Ne.symm nDC) (fun i ys news oI oC mC h tk t => turn I C D i ys news oI oC mC h tk t nIC (Ne.symm nDI) (Ne.symm nDC))
      (fun ys news oC mC h tk e1 e2 e3 e4 e5 => ⟨ys, news, oC, mC, h, tk, rfl, e1, e2, e3, e4, e5⟩) n 0 [] news oC _ h₁ _ (Nat.zero_add n) rfl hI hoC F₄ N₅ off) fun Q hQ => ?_
    exact wpAny_pyIter_rangeiter (N₅ _ (.head _)).1 hQ
  · match r, hr with
    | .ok _, hr =>
      obtain ⟨ys, news, oC, mC, h, tk, rfl, hI, hoC, F, N, off⟩ := hr
      refine wpC_bindA (wpAny_rule (wpC_bindA (wpAny_holding (wpAny_assign_Name (wpAny_storeName_local hy F.ns (fun h₂ hn₂ hs₂ => ?_) hp)))))
      have F₂ := F.set hn₂ hs₂
      have N₂ := N.set hs₂
      refine wpC_bindA (wpAny_comp_letGo (cenv := { newEnv scope C env.globals cl env.qual none Value.none (some env) builtinsNs with scope := relabel scope env }) hkind _ _ mC (fun z hz hl => ?_) (hoC.ns (N₂ _ (.head _)).1) fun h₃ m₃ _ hs₃ => wpC_pure ?_)
      · have hm : z ∈ scope.names := by
          have : z ∈ (scope.names.filter fun x => (x.2 == .local || x.2 == .cell) && x.1 != (".0" : Str)).reverse := (List.mem_append.mp hz).elim List.mem_of_mem_drop List.mem_of_mem_take
          exact (List.mem_filter.mp (List.mem_reverse.mp this)).1
        exact lookup_relabel_local (hnames z hm hl)
      · have hC := N₂ _ (.head _)
        refine after D ys news h₃ _ hI (F₂.change hs₃ hC.2.1 hC.2.2) (fun p hp => ?_) fun p hp => (off.mem p hp).2.2
        have z := N₂ p (.tail _ hp)
        refine ⟨hs₃.extBut _ _ ?_ z.1, z.2⟩
        cases hp with
        | head => exact nDC
        | tail _ hp => exact (off.mem p hp).2.1
end
end Mine
end
section
open PySem PySem.W PyProof.Rows PySem.Calls PyProof.Rows.LCg
set_option Elab.async false
namespace Mine
theorem plain_Pro5 : True := by
  w_top off
  k_with_none
  trivial
set_option maxRecDepth 100000
theorem perm_made {M : Mem} {a b c d i : Addr × Obj} {l : List (Addr × Obj)} : ∀ p ∈ i :: c :: d :: M.led l, p ∈ M.led (a :: b :: i :: c :: d :: l) := by
  intro p hp
  simp only [List.mem_cons] at hp ⊢
  rcases hp with h | h | h | h | h | h | h <;> simp only [h, true_or, or_true]
theorem off_made {M : Mem} {I C D : Addr} {l l' : List (Addr × Obj)} {oI oC oD : Obj} {a b : Addr × Obj} (h : Off3 I C D l) (lt : ∀ p ∈ a :: b :: (I, oI) :: (C, oC) :: (D, oD) :: l', @LT.lt Nat _ p.1 M.dx) (h1 : @LT.lt Nat _ M.dx M.x) (h2 : @LT.lt Nat _ M.x M.b) : Off3 I C D (M.led l) := by
  have a1 := lt (I, oI) (.tail _ (.tail _ (.head _)))
  have a2 := lt (C, oC) (.tail _ (.tail _ (.tail _ (.head _))))
  have a3 := lt (D, oD) (.tail _ (.tail _ (.tail _ (.tail _ (.head _)))))
  dsimp only at a1 a2 a3
  exact ⟨⟨by omega, by omega, by omega⟩, ⟨by omega, by omega, by omega⟩, ⟨by omega, by omega, by omega⟩, h⟩
theorem lenFit5 {ns : List Int} (h : ns.length ≤ 63) : ns.length < 2 ^ 62 := Nat.lt_of_le_of_lt h (by decide)
theorem lines_Pro5_0 : True := by
  w_top off
  k_with_none
  k_with "mine wpC" => (k_here; (with_reducible show wpC _ _ (eval (Expr.Call (Expr.Name _ _) _ _ _) _) _ _ _); k_dflt (refine wpC_Call_Name ?_))
  k_with "mine wpC" => (k_here; (with_reducible show wpC _ _ (callWith _ (Value.ref _) _ _ _) _ _ _); k_dflt (refine' wpC_callWith_K ?X ?k ?_ (by with_unfolding_all rfl) (by with_unfolding_all rfl); (case X => k_asm); (case k => k_is)))
  trivial

def K5 (w : World) (h₀ : Heap) (L fa l : Addr) (cd : Value) (Q : Flow → Shared → Prop) (s : Shared) (pg ps la lb : Int) (va vb : Value) (LM SG : Addr) (led : List (Addr × Obj)) : Prop :=
  ∀ (M0 M1 : Mem) (MA : Addr) (u : Str → Option Value) (h' : Heap) (tk : Nat),
    M0.most = va → M0.page = pg → M0.pages = ps → M0.d = List.replicate (la * pg).toNat 0 →
    M1.most = vb → M1.page = pg → M1.pages = ps → M1.d = List.replicate (lb * pg).toNat 0 → @Ne Nat M0.b M1.b →
    Fr h₀ L h' (fun y => if y = "memories" then some (.ref MA) else if y = "segments" then some (.ref SG) else if y = "limits" then some (.ref LM) else if y = "script" then some (.ref l) else u y) →
    News h₀ L h' ((MA, lstO [.ref M0.x, .ref M1.x] 2) :: M1.led (M0.led led)) →
    wpC (model PySem.Challenge.rw_nm0116_01.row.prog w) (callerA.deeper (lawE L fa cd)) (execs (lawB.drop 13) (lawE L fa cd)) Q (fun _ _ => False) { s with heap := h', toks := tk }
set_option maxHeartbeats 1000000 in
theorem law_p5 (w : World) (mean : ExcName → Option Value) (mg mb : Str → Option Value) (h₀ : Heap) (L fa l : Addr) (cd : Value) (vs : List Value) (ns : List Int) (s : Shared) (Q : Flow → Shared → Prop) (pg ps la lb : Int) (ta tb tp tq : Tok) (va vb : Value) (LA ZA : Addr) (n : Nat) (oM oL oQ oP o3 o2 : Obj) (v3 : Int) (t3 : Tok) (l0 l1 : Int) (u0 u1 : Tok) (LM : Addr) (nl : Nat) (sz dz SG s0 s1 : Addr) (H1 H2 H3 H4 H5 : Int) (e1 e2 e3 e4 e5 te td : Tok) (el de : Int) (fu : Value) (ss0 ss1 : List Value) (i0 i1 ng : Nat) (oS : Obj) (u : Str → Option Value) :
    ∀ (_B : Below callerA h₀ [] h₀) (_X : (MineH.top.heap_1 w.params).In h₀) (_T : Top MineH.top.view_1 (looseW MineH.top.view_1 []) mean mg mb h₀) (_hl : h₀.IsList l vs.toArray) (_hi : IntsAre vs ns) (_hn : ns.length ≤ 63) (_pg : 3 ≤ pg ∧ pg ≤ 8) (_ps : 2 ≤ ps ∧ ps ≤ 5) (_la : 1 ≤ la ∧ la ≤ 2) (_lb : 0 ≤ lb ∧ lb ≤ ps) (_fu : handedIn fu = true) (_va : handedIn va = true) (_vb : handedIn vb = true)
    (_la1 : la ≤ ps) (_la2 : 0 ≤ la * pg) (_la3 : la * pg ≤ 16777216) (_lb1 : lb ≤ ps) (_lb2 : 0 ≤ lb * pg) (_lb3 : lb * pg ≤ 16777216) (_pg1 : 0 ≤ pg) (_pg2 : pg < 1000)
    (_dS : oS.data = .cell (some (.ref sz))) (_dM : oM.data = .cell (some (.ref ZA))) (_dL : oL.data = .cell (some (.ref LA))) (_dQ : oQ.data = .cell (some (.int ps tq))) (_dP : oP.data = .cell (some (.int pg tp))) (_d3 : o3.data = .cell (some (.int v3 t3)))
    (_F : Fr h₀ L s.heap (fun y => if y = "segments" then some (.ref SG) else if y = "limits" then some (.ref LM) else if y = "script" then some (.ref l) else u y)) (_N : News h₀ L s.heap ((sz, instObj 207 dz) :: (dz, szD H1 H2 H3 H4 H5 e1 e2 e3 e4 e5 pg ps el de tp tq te td fu) :: (SG, lstO [.ref s0, .ref s1, .none] ng) :: (s0, lstO ss0 i0) :: (s1, lstO ss1 i1) :: (LM, lstO [.int l0 u0, .int l1 u1] nl) :: [(ZA, lstO [va, vb] n), (LA, lstO [.int la ta, .int lb tb] 0), (L + 1 + 1 + 1 + 1 + 1 + 1 + 1, oS), (L + 1 + 1 + 1 + 1 + 1 + 1, oM), (L + 1 + 1 + 1 + 1 + 1, oL), (L + 1 + 1 + 1 + 1, oQ), (L + 1 + 1 + 1, oP), (L + 1 + 1, o3), (L + 1, o2)])) (_k : K5 w h₀ L fa l cd Q s pg ps la lb va vb LM SG ((sz, instObj 207 dz) :: (dz, szD H1 H2 H3 H4 H5 e1 e2 e3 e4 e5 pg ps el de tp tq te td fu) :: (SG, lstO [.ref s0, .ref s1, .none] ng) :: (s0, lstO ss0 i0) :: (s1, lstO ss1 i1) :: (LM, lstO [.int l0 u0, .int l1 u1] nl) :: [(ZA, lstO [va, vb] n), (LA, lstO [.int la ta, .int lb tb] 0), (L + 1 + 1 + 1 + 1 + 1 + 1 + 1, oS), (L + 1 + 1 + 1 + 1 + 1 + 1, oM), (L + 1 + 1 + 1 + 1 + 1, oL), (L + 1 + 1 + 1 + 1, oQ), (L + 1 + 1 + 1, oP), (L + 1 + 1, o3), (L + 1, o2)])),
    wpC (model PySem.Challenge.rw_nm0116_01.row.prog w) (callerA.deeper (lawE L fa cd)) (execs (lawB.drop 12) (lawE L fa cd)) Q (fun _ _ => False) s := by
  k_fill
  intro B X T hl hi hn pg0 ps0 la0 lb0 hfu hva hvb a1 a2 a3 b1 b2 b3 p1 p2 dS dM dL dQ dP d3 F N k
  unfold K5 at k
  unfold lawE at *
  conv =>
    enter [3, 1]
    whnf
  generalize hS : lawS = sc at *
  conv at hS =>
    lhs
    whnf
  subst hS
  refine wpC_execs_cons ?_
  k_dflt (refine wpC_Comp_range (n := 2) (fun i ys news => match i with
            | 0 => ys = [] ∧ news = ((sz, instObj 207 dz) :: (dz, szD H1 H2 H3 H4 H5 e1 e2 e3 e4 e5 pg ps el de tp tq te td fu) :: (SG, lstO [.ref s0, .ref s1, .none] ng) :: (s0, lstO ss0 i0) :: (s1, lstO ss1 i1) :: (LM, lstO [.int l0 u0, .int l1 u1] nl) :: [(ZA, lstO [va, vb] n), (LA, lstO [.int la ta, .int lb tb] 0), (L + 1 + 1 + 1 + 1 + 1 + 1 + 1, oS), (L + 1 + 1 + 1 + 1 + 1 + 1, oM), (L + 1 + 1 + 1 + 1 + 1, oL), (L + 1 + 1 + 1 + 1, oQ), (L + 1 + 1 + 1, oP), (L + 1 + 1, o3), (L + 1, o2)])
            | 1 => ∃ M0 : Mem, ys = [.ref M0.x] ∧ news = M0.led ((sz, instObj 207 dz) :: (dz, szD H1 H2 H3 H4 H5 e1 e2 e3 e4 e5 pg ps el de tp tq te td fu) :: (SG, lstO [.ref s0, .ref s1, .none] ng) :: (s0, lstO ss0 i0) :: (s1, lstO ss1 i1) :: (LM, lstO [.int l0 u0, .int l1 u1] nl) :: [(ZA, lstO [va, vb] n), (LA, lstO [.int la ta, .int lb tb] 0), (L + 1 + 1 + 1 + 1 + 1 + 1 + 1, oS), (L + 1 + 1 + 1 + 1 + 1 + 1, oM), (L + 1 + 1 + 1 + 1 + 1, oL), (L + 1 + 1 + 1 + 1, oQ), (L + 1 + 1 + 1, oP), (L + 1 + 1, o3), (L + 1, o2)]) ∧ M0.most = va ∧ M0.page = pg ∧ M0.pages = ps ∧ M0.d = List.replicate (la * pg).toNat 0
            | _ => ∃ M0 M1 : Mem, ys = [.ref M0.x, .ref M1.x] ∧ news = M1.led (M0.led ((sz, instObj 207 dz) :: (dz, szD H1 H2 H3 H4 H5 e1 e2 e3 e4 e5 pg ps el de tp tq te td fu) :: (SG, lstO [.ref s0, .ref s1, .none] ng) :: (s0, lstO ss0 i0) :: (s1, lstO ss1 i1) :: (LM, lstO [.int l0 u0, .int l1 u1] nl) :: [(ZA, lstO [va, vb] n), (LA, lstO [.int la ta, .int lb tb] 0), (L + 1 + 1 + 1 + 1 + 1 + 1 + 1, oS), (L + 1 + 1 + 1 + 1 + 1 + 1, oM), (L + 1 + 1 + 1 + 1 + 1, oL), (L + 1 + 1 + 1 + 1, oQ), (L + 1 + 1 + 1, oP), (L + 1 + 1, o3), (L + 1, o2)])) ∧ (M0.most = va ∧ M0.page = pg ∧ M0.pages = ps ∧ M0.d = List.replicate (la * pg).toNat 0) ∧ (M1.most = vb ∧ M1.page = pg ∧ M1.pages = ps ∧ M1.d = List.replicate (lb * pg).toNat 0) ∧ @Ne Nat M0.b M1.b)
            (by k_asm) (by rfl) (by rfl) (by with_unfolding_all rfl) (by rfl) (by decide) (by rfl) (by decide) (by rfl) (by rfl) (by rfl) (by intro _; rfl) (by exact Nat.le_of_ble_eq_true rfl) ?src ?turn ?after)
  case src =>
    iterate 7 walk1
    exact ⟨_, _, _, _, _, _, _, rfl, rfl, by assumption, by decide, by decide, by assumption, by assumption, by first | rfl | trivial, by first | rfl | trivial⟩
  case after =>
    intro D' ys news' h' tk' hI F' N' _
    obtain ⟨M0, M1, rfl, rfl, ⟨m10, m20, m30, m40⟩, ⟨m11, m21, m31, m41⟩, m5⟩ := hI
    exact k M0 M1 D' _ _ _ m10 m20 m30 m40 m11 m21 m31 m41 m5 F' N'
  intro I' C' D' i ys news' oI' oC' m' h' tk' t9' ne1' ne2' ne3' hi2 hI hC' hx' F' N' off'
  obtain rfl | rfl : i = 0 ∨ i = 1 := by omega
  · obtain ⟨rfl, rfl⟩ := hI
    change _ = some (Value.int 0 t9') at hx'
    have offA := off'
    simp only [LCg.Off3, and_true] at off'
    k_steps
    refine' CallsC.use (made_calls w sz dz _ _ _ _ _ _ _ _ _ _ pg ps el de tp tq te td fu la _ va hva a1 a2 a3 p1 p2 _) ?B ?F ?X ?N ?T ?k ?d ?u ?_ ?x
    case B => k_asm
    case F => k_asm
    case X => k_asm
    case N => exact news_dup2 (by k_asm) (by k_dflt k_mem) (by k_dflt k_mem)
    case T => k_asm
    case k => k_dflt (exact rfl)
    case d => ktr_room
    case u => ktr_units
    case x => exact fun _ _ _ _ _ _ _ _ _ hx _ _ => hx.elim
    k_whole
    intro r n0 h0 tk0 hP F0 N0
    obtain ⟨M0, hr, m10, m20, m30, m40, m50, m60, m70, m80, _, hn⟩ := hP
    subst hr
    subst hn
    refine LCg.CompEnd.intro F0 N0 (M0.led ((sz, instObj 207 dz) :: (dz, szD H1 H2 H3 H4 H5 e1 e2 e3 e4 e5 pg ps el de tp tq te td fu) :: (SG, lstO [.ref s0, .ref s1, .none] ng) :: (s0, lstO ss0 i0) :: (s1, lstO ss1 i1) :: (LM, lstO [.int l0 u0, .int l1 u1] nl) :: [(ZA, lstO [va, vb] n), (LA, lstO [.int la ta, .int lb tb] 0), (L + 1 + 1 + 1 + 1 + 1 + 1 + 1, oS), (L + 1 + 1 + 1 + 1 + 1 + 1, oM), (L + 1 + 1 + 1 + 1 + 1, oL), (L + 1 + 1 + 1 + 1, oQ), (L + 1 + 1 + 1, oP), (L + 1 + 1, o3), (L + 1, o2)])) ?sub ?off trivial ?_
    case sub => exact perm_made
    case off => exact off_made offA m60 m70 m80
    exact ⟨M0, rfl, rfl, m10, m20, m30, m40⟩
  · obtain ⟨M0, rfl, rfl, m10, m20, m30, m40⟩ := hI
    change _ = some (Value.int 1 t9') at hx'
    have offA := off'
    simp only [LCg.Off3, and_true] at off'
    k_steps
    refine' CallsC.use (made_calls w sz dz _ _ _ _ _ _ _ _ _ _ pg ps el de tp tq te td fu lb _ vb hvb b1 b2 b3 p1 p2 _) ?B ?F ?X ?N ?T ?k ?d ?u ?_ ?x
    case B => k_asm
    case F => k_asm
    case X => k_asm
    case N => exact news_dup2 (by k_asm) (by k_dflt k_mem) (by k_dflt k_mem)
    case T => k_asm
    case k => k_dflt (exact rfl)
    case d => ktr_room
    case u => ktr_units
    case x => exact fun _ _ _ _ _ _ _ _ _ hx _ _ => hx.elim
    k_whole
    intro r n1 h1 tk1 hP F1 N1
    obtain ⟨M1, hr, m11, m21, m31, m41, m51, m61, m71, m81, _, hn⟩ := hP
    subst hr
    subst hn
    refine LCg.CompEnd.intro F1 N1 (M1.led (M0.led ((sz, instObj 207 dz) :: (dz, szD H1 H2 H3 H4 H5 e1 e2 e3 e4 e5 pg ps el de tp tq te td fu) :: (SG, lstO [.ref s0, .ref s1, .none] ng) :: (s0, lstO ss0 i0) :: (s1, lstO ss1 i1) :: (LM, lstO [.int l0 u0, .int l1 u1] nl) :: [(ZA, lstO [va, vb] n), (LA, lstO [.int la ta, .int lb tb] 0), (L + 1 + 1 + 1 + 1 + 1 + 1 + 1, oS), (L + 1 + 1 + 1 + 1 + 1 + 1, oM), (L + 1 + 1 + 1 + 1 + 1, oL), (L + 1 + 1 + 1 + 1, oQ), (L + 1 + 1 + 1, oP), (L + 1 + 1, o3), (L + 1, o2)]))) ?sub ?off trivial ?_
    case sub => exact perm_made
    case off => exact off_made offA m61 m71 m81
    exact ⟨M0, M1, rfl, rfl, ⟨m10, m20, m30, m40⟩, ⟨m11, m21, m31, m41⟩, Nat.ne_of_lt (m51 (M0.b, baObj M0.d) (.tail _ (.tail _ (.tail _ (.tail _ (.tail _ (.tail _ (.tail _ (.head _)))))))))⟩
end Mine
end
section
open PySem PySem.W PyProof.Rows PySem.Calls PyProof.Rows.LCg
set_option Elab.async false
namespace Mine
theorem plain_Pro6 : True := by
  w_top off
  k_with_none
  trivial
set_option maxRecDepth 100000
theorem flat_rep (n : Nat) : (List.replicate n [(0 : Int)]).flatten = List.replicate n 0 := by
  induction n with
  | zero => rfl
  | succ n ih => simp [List.replicate_succ, ih]
theorem oct_zero (n : Nat) : octInts (List.replicate n (0 : UInt8)) = List.replicate n (0 : Int) := by simp [octInts]
def GB (la lb pg : Int) : Prop := (0 ≤ la * pg ∧ la * pg ≤ 1000) ∧ (0 ≤ lb * pg ∧ lb * pg ≤ 1000)
theorem gdB {la lb pg : Int} (h : GB la lb pg) (i : Nat) : 0 ≤ List.getD [la, lb] i 0 * pg ∧ List.getD [la, lb] i 0 * pg ≤ 1000 := by
  match i with
  | 0 => exact h.1
  | 1 => exact h.2
  | i + 2 => simp
theorem permRow {a b c r z : Addr × Obj} {l : List (Addr × Obj)} : ∀ p ∈ a :: b :: c :: r :: l, p ∈ r :: z :: a :: b :: c :: l := by
  intro p hp
  simp only [List.mem_cons] at hp ⊢
  rcases hp with h | h | h | h | h <;> simp only [h, true_or, or_true]
theorem off_row {I C D : Addr} {oI oC oD : Obj} {z r : Addr × Obj} {l : List (Addr × Obj)} (h : Off3 I C D l) (lt : ∀ p ∈ z :: (I, oI) :: (C, oC) :: (D, oD) :: l, @LT.lt Nat _ p.1 r.1) : Off3 I C D (r :: l) :=
  ⟨⟨Nat.ne_of_gt (lt _ (.tail _ (.head _))), Nat.ne_of_gt (lt _ (.tail _ (.tail _ (.head _)))), Nat.ne_of_gt (lt _ (.tail _ (.tail _ (.tail _ (.head _)))))⟩, h⟩
section
variable {prog : Program} {w : World} {A : Around} {E : Value → Shared → Prop} {s : Shared} {h₀ : Heap} {L : Addr} {m : Str → Option Value} {news : List (Addr × Obj)} {l : Addr} {x : Int} {u t : Tok} {c : Nat} {Q : Value → Shared → Prop}
theorem mul_gd (F : Fr h₀ L s.heap m) (N : News h₀ L s.heap news) (hm : (l, lstO [.int 0 t] c) ∈ news) (hb : 0 ≤ x ∧ x ≤ 1000)
    (h : ∀ D h' vs, Fr h₀ L h' m → News h₀ L h' ((D, lstO vs 0) :: news) → (∀ p ∈ news, p.1 < D) → IntsAre vs (List.replicate x.toNat 0) → Q (.ref D) { s with heap := h' }) : wpAny (model prog w) A (binaryOp .Mult (.ref l) (.int x u)) Q E s := by
  refine KM.mul F N (N.isList hm) (ns := [0]) (.cons _ _ .nil) (by omega) (by omega) (by simp; omega) fun D h' F' N' lt i' _ _ _ _ _ => ?_
  rw [flat_rep] at i'
  exact h D h' _ F' N' lt i'
end
theorem news_same {h₀ h : Heap} {L : Addr} {own : List (Addr × Obj)} {a1 a2 a3 a4 a5 a6 a7 a8 a9 a10 a11 : Addr × Obj} (N : News h₀ L h own) (h1 : a1 ∈ own) (h2 : a2 ∈ own) (h3 : a3 ∈ own) (h4 : a4 ∈ own) (h5 : a5 ∈ own) (h6 : a6 ∈ own) (h7 : a7 ∈ own) (h8 : a8 ∈ own) (h9 : a9 ∈ own) (h10 : a10 ∈ own) (h11 : a11 ∈ own) :
    News h₀ L h (a1 :: a2 :: a3 :: a4 :: a5 :: a6 :: a7 :: a8 :: a9 :: a10 :: a11 :: own) :=
  news_dup0 (news_dup0 (news_dup0 (news_dup0 (news_dup0 (news_dup0 (news_dup0 (news_dup0 (news_dup0 (news_dup0 (news_dup0 N h11) (.tail _ h10)) (.tail _ (.tail _ h9))) (.tail _ (.tail _ (.tail _ h8)))) (.tail _ (.tail _ (.tail _ (.tail _ h7))))) (.tail _ (.tail _ (.tail _ (.tail _ (.tail _ h6)))))) (.tail _ (.tail _ (.tail _ (.tail _ (.tail _ (.tail _ h5))))))) (.tail _ (.tail _ (.tail _ (.tail _ (.tail _ (.tail _ (.tail _ h4)))))))) (.tail _ (.tail _ (.tail _ (.tail _ (.tail _ (.tail _ (.tail _ (.tail _ h3))))))))) (.tail _ (.tail _ (.tail _ (.tail _ (.tail _ (.tail _ (.tail _ (.tail _ (.tail _ h2)))))))))) (.tail _ (.tail _ (.tail _ (.tail _ (.tail _ (.tail _ (.tail _ (.tail _ (.tail _ (.tail _ h1))))))))))
theorem lines_Pro6_0 : True := by
  w_top off
  k_with_none
  k_with "mine binaryOp Mult int int" => (k_here; (with_reducible refine' mul_int ?_ ?s); (case s => assumption))
  k_with "mine eval Call" => (k_here; (with_reducible show wpAny _ _ (eval (Expr.Call (Expr.Name _ _) _ [] _) _) _ _ _); k_dflt (refine Call_ ?_))
  k_with "mine binaryOp Mult ref int" => (k_here; (with_reducible show wpAny _ _ (binaryOp Operator.Mult (Value.ref _) (Value.int (_ * _) _)) _ _ _); k_dflt (refine' mul_gd ?F ?N ?m ?g ?_; (case F => k_asm); (case N => k_asm); (case m => exact .head _); (case g => assumption)); k_whole; intro D' h' vs' F' N' l1 i')
  k_with "mine CompRest" => (with_unfolding_all (refine LCg.CompRest.succ ?_; intro v' I' oI' C' oC' D' m' h' tk' E' hv' hC' hx' F' N' off' ne'; have offA := off'; (obtain ⟨t9', hv9'⟩ := hv'; subst hv9'); (try simp only [LCg.Off3, and_true] at off')))
  k_with "mine CompEnd" => ((refine' LCg.CompEnd.intro ?F ?N _ ?sub ?off ?S ?_); (case N => k_asm); (case F => k_asm); (case sub => exact permRow); (case off => exact off_row (by assumption) (by assumption)); (case S => exact trivial))
  trivial

theorem lines_Pro6_1 : True := by
  k_with "mine exec Assign cons ListComp" => (k_here; lcg_look; lcg_calm; k_dflt (refine LCg.Assign_ListComp_U (F₀ := by k_asm) (by rfl) (by with_unfolding_all rfl) (by rfl) (by decide) (by rfl) (by decide) (by rfl) (by rfl) (by rfl) ?_); k_dflt lcg_toSrc)
  k_with "mine CompSrc" => (k_here; k_dflt (first | (refine LCg.CompSrc.ledger (by rfl) (by k_asm) (by k_asm) (by k_mem) (by first | size_fits | exact Nat.le_of_ble_eq_true rfl) ?_; intro g'; lcg_lit) | (refine LCg.CompSrc.range (by rfl) (by k_asm) (by k_asm) (by assumption) (by first | decide | rfl) (by first | rfl | decide) (by first | size_fits | exact Nat.le_of_ble_eq_true rfl) ?_; intro g'; lcg_lit)))
  trivial

def K6 (w : World) (h₀ : Heap) (L fa l : Addr) (cd : Value) (Q : Flow → Shared → Prop) (s : Shared) (la lb pg : Int) (MA LM SG : Addr) (led : List (Addr × Obj)) : Prop :=
  ∀ (RA r0 r1 : Addr) (w0 w1 : List Value) (u : Str → Option Value) (h' : Heap) (tk : Nat),
    IntsAre w0 (List.replicate (la * pg).toNat 0) → IntsAre w1 (List.replicate (lb * pg).toNat 0) →
    Fr h₀ L h' (fun y => if y = "rows" then some (.ref RA) else if y = "memories" then some (.ref MA) else if y = "segments" then some (.ref SG) else if y = "limits" then some (.ref LM) else if y = "script" then some (.ref l) else u y) →
    News h₀ L h' ((RA, lstO [.ref r0, .ref r1] 2) :: (r1, lstO w1 0) :: (r0, lstO w0 0) :: led) →
    wpC (model PySem.Challenge.rw_nm0116_01.row.prog w) (callerA.deeper (lawE L fa cd)) (execs (lawB.drop 14) (lawE L fa cd)) Q (fun _ _ => False) { s with heap := h', toks := tk }
set_option maxHeartbeats 1000000 in
theorem law_p6 (w : World) (mean : ExcName → Option Value) (mg mb : Str → Option Value) (h₀ : Heap) (L fa l : Addr) (cd : Value) (vs : List Value) (ns : List Int) (s : Shared) (Q : Flow → Shared → Prop) (M0 M1 : Mem) (MA : Addr) (pg ps la lb : Int) (ta tb tp tq : Tok) (LA ZA : Addr) (n : Nat) (oM oL oQ oP o3 o2 : Obj) (v3 : Int) (t3 : Tok) (l0 l1 : Int) (u0 u1 : Tok) (LM : Addr) (nl : Nat) (sz dz SG s0 s1 : Addr) (H1 H2 H3 H4 H5 : Int) (e1 e2 e3 e4 e5 te td : Tok) (el de : Int) (fu : Value) (ss0 ss1 : List Value) (i0 i1 ng : Nat) (oS : Obj) (u : Str → Option Value) :
    ∀ (_B : Below callerA h₀ [] h₀) (_X : (MineH.top.heap_1 w.params).In h₀) (_T : Top MineH.top.view_1 (looseW MineH.top.view_1 []) mean mg mb h₀) (_hl : h₀.IsList l vs.toArray) (_hi : IntsAre vs ns) (_hn : ns.length ≤ 63) (_o1 : PySem.IntMulOk la pg) (_o2 : PySem.IntMulOk lb pg) (_o3 : 0 ≤ la * pg ∧ la * pg ≤ 1000) (_o4 : 0 ≤ lb * pg ∧ lb * pg ≤ 1000)
    (_dS : oS.data = .cell (some (.ref sz))) (_dM : oM.data = .cell (some (.ref ZA))) (_dL : oL.data = .cell (some (.ref LA))) (_dQ : oQ.data = .cell (some (.int ps tq))) (_dP : oP.data = .cell (some (.int pg tp))) (_d3 : o3.data = .cell (some (.int v3 t3)))
    (_F : Fr h₀ L s.heap (fun y => if y = "memories" then some (.ref MA) else if y = "segments" then some (.ref SG) else if y = "limits" then some (.ref LM) else if y = "script" then some (.ref l) else u y)) (_N : News h₀ L s.heap ((MA, lstO [.ref M0.x, .ref M1.x] 2) :: M1.led (M0.led ((sz, instObj 207 dz) :: (dz, szD H1 H2 H3 H4 H5 e1 e2 e3 e4 e5 pg ps el de tp tq te td fu) :: (SG, lstO [.ref s0, .ref s1, .none] ng) :: (s0, lstO ss0 i0) :: (s1, lstO ss1 i1) :: (LM, lstO [.int l0 u0, .int l1 u1] nl) :: [(ZA, lstO [M0.most, M1.most] n), (LA, lstO [.int la ta, .int lb tb] 0), (L + 1 + 1 + 1 + 1 + 1 + 1 + 1, oS), (L + 1 + 1 + 1 + 1 + 1 + 1, oM), (L + 1 + 1 + 1 + 1 + 1, oL), (L + 1 + 1 + 1 + 1, oQ), (L + 1 + 1 + 1, oP), (L + 1 + 1, o3), (L + 1, o2)])))) (_k : K6 w h₀ L fa l cd Q s la lb pg MA LM SG ((MA, lstO [.ref M0.x, .ref M1.x] 2) :: M1.led (M0.led ((sz, instObj 207 dz) :: (dz, szD H1 H2 H3 H4 H5 e1 e2 e3 e4 e5 pg ps el de tp tq te td fu) :: (SG, lstO [.ref s0, .ref s1, .none] ng) :: (s0, lstO ss0 i0) :: (s1, lstO ss1 i1) :: (LM, lstO [.int l0 u0, .int l1 u1] nl) :: [(ZA, lstO [M0.most, M1.most] n), (LA, lstO [.int la ta, .int lb tb] 0), (L + 1 + 1 + 1 + 1 + 1 + 1 + 1, oS), (L + 1 + 1 + 1 + 1 + 1 + 1, oM), (L + 1 + 1 + 1 + 1 + 1, oL), (L + 1 + 1 + 1 + 1, oQ), (L + 1 + 1 + 1, oP), (L + 1 + 1, o3), (L + 1, o2)])))),
    wpC (model PySem.Challenge.rw_nm0116_01.row.prog w) (callerA.deeper (lawE L fa cd)) (execs (lawB.drop 13) (lawE L fa cd)) Q (fun _ _ => False) s := by
  k_fill
  intro B X T hl hi hn o1 o2 o3 o4 dS dM dL dQ dP d3 F N k
  unfold K6 at k
  unfold lawE at *
  conv =>
    enter [3, 1]
    whnf
  generalize hS : lawS = sc at *
  conv at hS =>
    lhs
    whnf
  subst hS
  refine wpC_execs_consA ?_
  k_steps
  refine' k _ _ _ _ _ _ _ _ ?i0 ?i1 ?F ?N
  case N => k_asm
  case F => k_asm
  case i0 => assumption
  case i1 => assumption
end Mine
end
section
open PySem PySem.W PyProof.Rows PySem.Calls PyProof.Rows.LCg
set_option Elab.async false
namespace Mine
theorem plain_Pro7 : True := by
  w_top off
  k_with_none
  trivial
set_option maxRecDepth 100000
theorem lines_Pro7_0 : True := by
  w_top off
  k_with_none
  k_with "mine eval Call" => (k_here; (with_reducible show wpAny _ _ (eval (Expr.Call (Expr.Name _ _) _ [] _) _) _ _ _); k_dflt (refine Call_ ?_))
  trivial

def K7 (w : World) (h₀ : Heap) (L fa l : Addr) (cd : Value) (Q : Flow → Shared → Prop) (s : Shared) (k : Nat) (RA MA LM SG : Addr) (led : List (Addr × Obj)) (u : Str → Option Value) : Prop :=
  ∀ (h' : Heap) (tk : Nat),
    Fr h₀ L h' (fun y => if y = "rows" then some (.ref RA) else if y = "memories" then some (.ref MA) else if y = "segments" then some (.ref SG) else if y = "limits" then some (.ref LM) else if y = "script" then some (.ref l) else u y) → News h₀ L h' led →
    wpC (model PySem.Challenge.rw_nm0116_01.row.prog w) (callerA.deeper (lawE L fa cd)) (execs (lawB.drop k) (lawE L fa cd)) Q (fun _ _ => False) { s with heap := h', toks := tk }
set_option maxHeartbeats 1000000 in
theorem law_p7 (w : World) (mean : ExcName → Option Value) (mg mb : Str → Option Value) (h₀ : Heap) (L fa l : Addr) (cd : Value) (vs : List Value) (ns : List Int) (s : Shared) (Q : Flow → Shared → Prop) (M0 M1 : Mem) (MA RA r0 r1 : Addr) (w0 w1 : List Value) (pg ps la lb : Int) (ta tb tp tq : Tok) (LA ZA : Addr) (n : Nat) (oM oL oQ oP o3 o2 : Obj) (v3 : Int) (t3 : Tok) (l0 l1 : Int) (u0 u1 : Tok) (LM : Addr) (nl : Nat) (sz dz SG s0 s1 : Addr) (H1 H2 H3 H4 H5 : Int) (e1 e2 e3 e4 e5 te td : Tok) (el de : Int) (fu : Value) (ss0 ss1 : List Value) (i0 i1 ng : Nat) (oS : Obj) (u : Str → Option Value) :
    ∀ (_B : Below callerA h₀ [] h₀) (_X : (MineH.top.heap_1 w.params).In h₀) (_T : Top MineH.top.view_1 (looseW MineH.top.view_1 []) mean mg mb h₀) (_hl : h₀.IsList l vs.toArray) (_hi : IntsAre vs ns) (_hn : ns.length ≤ 63) (_ok0 : M0.Ok) (_ok1 : M1.Ok) (_i0 : IntsAre w0 (octInts M0.d)) (_i1 : IntsAre w1 (octInts M1.d)) (_g0 : M0.page = pg) (_g1 : M1.page = pg)
    (_dS : oS.data = .cell (some (.ref sz))) (_dM : oM.data = .cell (some (.ref ZA))) (_dL : oL.data = .cell (some (.ref LA))) (_dQ : oQ.data = .cell (some (.int ps tq))) (_dP : oP.data = .cell (some (.int pg tp))) (_d3 : o3.data = .cell (some (.int v3 t3)))
    (_F : Fr h₀ L s.heap (fun y => if y = "rows" then some (.ref RA) else if y = "memories" then some (.ref MA) else if y = "segments" then some (.ref SG) else if y = "limits" then some (.ref LM) else if y = "script" then some (.ref l) else u y)) (_N : News h₀ L s.heap ((RA, lstO [.ref r0, .ref r1] 2) :: (r1, lstO w1 0) :: (r0, lstO w0 0) :: (MA, lstO [.ref M0.x, .ref M1.x] 2) :: M1.led (M0.led ((sz, instObj 207 dz) :: (dz, szD H1 H2 H3 H4 H5 e1 e2 e3 e4 e5 pg ps el de tp tq te td fu) :: (SG, lstO [.ref s0, .ref s1, .none] ng) :: (s0, lstO ss0 i0) :: (s1, lstO ss1 i1) :: (LM, lstO [.int l0 u0, .int l1 u1] nl) :: [(ZA, lstO [M0.most, M1.most] n), (LA, lstO [.int la ta, .int lb tb] 0), (L + 1 + 1 + 1 + 1 + 1 + 1 + 1, oS), (L + 1 + 1 + 1 + 1 + 1 + 1, oM), (L + 1 + 1 + 1 + 1 + 1, oL), (L + 1 + 1 + 1 + 1, oQ), (L + 1 + 1 + 1, oP), (L + 1 + 1, o3), (L + 1, o2)])))) (_k : K7 w h₀ L fa l cd Q s 15 RA MA LM SG ((RA, lstO [.ref r0, .ref r1] 2) :: (r1, lstO w1 0) :: (r0, lstO w0 0) :: (MA, lstO [.ref M0.x, .ref M1.x] 2) :: M1.led (M0.led ((sz, instObj 207 dz) :: (dz, szD H1 H2 H3 H4 H5 e1 e2 e3 e4 e5 pg ps el de tp tq te td fu) :: (SG, lstO [.ref s0, .ref s1, .none] ng) :: (s0, lstO ss0 i0) :: (s1, lstO ss1 i1) :: (LM, lstO [.int l0 u0, .int l1 u1] nl) :: [(ZA, lstO [M0.most, M1.most] n), (LA, lstO [.int la ta, .int lb tb] 0), (L + 1 + 1 + 1 + 1 + 1 + 1 + 1, oS), (L + 1 + 1 + 1 + 1 + 1 + 1, oM), (L + 1 + 1 + 1 + 1 + 1, oL), (L + 1 + 1 + 1 + 1, oQ), (L + 1 + 1 + 1, oP), (L + 1 + 1, o3), (L + 1, o2)]))) u),
    wpC (model PySem.Challenge.rw_nm0116_01.row.prog w) (callerA.deeper (lawE L fa cd)) (execs (lawB.drop 14) (lawE L fa cd)) Q (fun _ _ => False) s := by
  k_fill
  intro B X T hl hi hn ok0 ok1 i0 i1 g0 g1 dS dM dL dQ dP d3 F N k
  unfold K7 at k
  unfold lawE at *
  conv =>
    enter [3, 1]
    whnf
  generalize hS : lawS = sc at *
  conv at hS =>
    lhs
    whnf
  subst hS
  refine wpC_execs_cons (wpC_If ?_)
  iterate 15 walk1
  refine' Calls.use (same_calls _ _ _ ?ok0 ?ok1 _ _ _ _ _ _ _ _ _ _ _ _ _ _ ?i0 ?i1 ?p0 ?p1 _) ?B ?F ?X ?N ?T ?k ?d ?u ?_ ?x
  case B => k_asm
  case F => k_asm
  case X => k_asm
  case N => exact news_same (by k_asm) (by k_dflt k_mem) (by k_dflt k_mem) (by k_dflt k_mem) (by k_dflt k_mem) (by k_dflt k_mem) (by k_dflt k_mem) (by k_dflt k_mem) (by k_dflt k_mem) (by k_dflt k_mem) (by k_dflt k_mem) (by k_dflt k_mem) 
  case ok0 => assumption
  case ok1 => assumption
  case T => k_asm
  case k => k_dflt (exact rfl)
  case d => ktr_room
  case u => ktr_units
  case i0 => assumption
  case i1 => assumption
  case p0 => assumption
  case p1 => assumption
  case x => exact fun _ _ _ _ _ _ _ _ _ hx _ _ => hx.elim
  k_whole
  intro r n' h' tk' hP F' N'
  obtain ⟨hr, hn⟩ := hP
  subst hr
  subst hn
  k_steps
  refine wpC_execs_nil ?_
  exact k _ _ (by assumption) (by assumption)
end Mine
end
section
open PySem PySem.W PyProof.Rows PySem.Calls PyProof.Rows.LCg
set_option Elab.async false
namespace Mine
theorem plain_Turn1 : True := by
  w_top off
  k_with_none
  trivial
set_option maxRecDepth 100000
def forB : List PySem.Stmt := match lawB.drop 15 with | PySem.Stmt.For _ _ b _ _ :: _ => b | _ => []
theorem lenFitT {ns : List Int} (h : ns.length ≤ 63) : ns.length < 2 ^ 62 := Nat.lt_of_le_of_lt h (by decide)
theorem lines_Turn1_0 : True := by
  w_top off
  k_with_none
  k_with "mine eval Call" => (k_here; (with_reducible show wpAny _ _ (eval (Expr.Call (Expr.Name _ _) _ [] _) _) _ _ _); k_dflt (refine Call_ ?_))
  k_with "mine call ref" => (k_here; (with_reducible show wpAny _ _ (call (Value.ref 218) [Value.ref _, Value.int _ _]) _ _ _); k_dflt (refine' cellTells_use ?B ?F ?X ?N ?T ?k ?l ?i ?f ?z (digit_tells _ _ _ _) ?d ?u ?_); (case B => k_asm); (case F => k_asm); (case X => k_asm); (case N => k_asm); (case T => k_asm); (case k => k_dflt (exact rfl)); (case l => assumption); (case i => assumption); (case f => exact lenFitT (by assumption)); (case z => first | decide | omega); (case d => ktr_room); (case u => first | decide | ktr_units); k_whole; intro t' h' tk' F' N')
  trivial
theorem fm9 (f : Int) : 0 ≤ Int.fmod f 9 ∧ Int.fmod f 9 < 9 := ⟨fmod_lo f (n := 9) (by decide), fmod_hi f (n := 9) (by decide)⟩
theorem fm2 (f : Int) : 0 ≤ Int.fmod f 2 ∧ Int.fmod f 2 ≤ 1 := ⟨fmod_lo f (n := 2) (by decide), Int.lt_add_one_iff.mp (fmod_hi f (n := 2) (by decide))⟩

def T1K (w : World) (h₀ : Heap) (L fa l : Addr) (cd : Value) (Q : Flow → Shared → Prop) (s : Shared) (i : Nat) (ti : Tok) (MA RA LM SG : Addr) (led : List (Addr × Obj)) (fm : Str → Option Value) : Prop :=
  ∀ (dg nu le op wh : Int) (td tn tl to' tw : Tok) (h' : Heap) (tk : Nat), (0 ≤ op ∧ op < 9) → (0 ≤ wh ∧ wh ≤ 1) →
    Fr h₀ L h' (fun y => if y = "which" then some (.int wh tw) else if y = "op" then some (.int op to') else if y = "length" then some (.int le tl) else if y = "number" then some (.int nu tn) else if y = "digit" then some (.int dg td) else if y = "k" then some (.int (i : Int) ti) else if y = "rows" then some (.ref RA) else if y = "memories" then some (.ref MA) else if y = "segments" then some (.ref SG) else if y = "limits" then some (.ref LM) else if y = "script" then some (.ref l) else fm y) → News h₀ L h' led →
    wpC (model PySem.Challenge.rw_nm0116_01.row.prog w) (callerA.deeper (lawE L fa cd)) (execs (forB.drop 5) (lawE L fa cd)) Q (fun _ _ => False) { s with heap := h', toks := tk }
set_option maxHeartbeats 1000000 in
theorem turn_1 (w : World) (mean : ExcName → Option Value) (mg mb : Str → Option Value) (h₀ : Heap) (L fa l : Addr) (cd : Value) (vs : List Value) (ns : List Int) (s : Shared) (Q : Flow → Shared → Prop) (i : Nat) (ti : Tok) (MA RA LM SG : Addr) (led : List (Addr × Obj)) (fm : Str → Option Value) :
    ∀ (_B : Below callerA h₀ [] h₀) (_X : (MineH.top.heap_1 w.params).In h₀) (_T : Top MineH.top.view_1 (looseW MineH.top.view_1 []) mean mg mb h₀) (_hl : h₀.IsList l vs.toArray) (_hi : IntsAre vs ns) (_hn : ns.length ≤ 63) (_i : i < 15)
    (_F : Fr h₀ L s.heap (fun y => if y = "k" then some (.int (i : Int) ti) else if y = "rows" then some (.ref RA) else if y = "memories" then some (.ref MA) else if y = "segments" then some (.ref SG) else if y = "limits" then some (.ref LM) else if y = "script" then some (.ref l) else fm y)) (_N : News h₀ L s.heap led) (_k : T1K w h₀ L fa l cd Q s i ti MA RA LM SG led fm),
    wpC (model PySem.Challenge.rw_nm0116_01.row.prog w) (callerA.deeper (lawE L fa cd)) (execs forB (lawE L fa cd)) Q (fun _ _ => False) s := by
  k_fill
  intro B X T hl hi hn hi15 F N k
  unfold T1K at k
  have ib : (0 : Int) ≤ (i : Int) ∧ (i : Int) < 15 := ⟨Int.natCast_nonneg _, by omega⟩
  unfold lawE at *
  conv =>
    enter [3, 1]
    whnf
  generalize hS : lawS = sc at *
  conv at hS =>
    lhs
    whnf
  subst hS
  generalize hB : forB = fb at *
  conv at hB =>
    lhs
    whnf
  subst hB
  refine wpC_execs_consA ?_
  k_steps
  refine wpC_execs_consA ?_
  k_steps
  refine wpC_execs_consA ?_
  k_steps
  refine wpC_execs_consA ?_
  k_steps
  refine wpC_execs_consA ?_
  k_steps
  exact k _ _ _ _ _ _ _ _ _ _ _ _ (fm9 _) (fm2 _) (by assumption) (by assumption)
end Mine
end
section
open PySem PySem.W PyProof.Rows PySem.Calls PyProof.Rows.LCg
set_option Elab.async false
namespace Mine
theorem plain_Turn2 : True := by
  w_top off
  k_with_none
  trivial
set_option maxRecDepth 100000
section
variable {prog : Program} {w : World} {A : Around} {E : Value → Shared → Prop} {s : Shared} {h₀ : Heap} {L l : Addr} {news : List (Addr × Obj)} {vs : List Value} {v v0 v1 v2 : Value} {c : Nat} {k : Int} {u : Tok} {value slice : PySem.Expr} {Q : Value → Shared → Prop}
theorem itemV (N : News h₀ L s.heap news) (hm : (l, lstO vs c) ∈ news) (hb : 0 ≤ k ∧ k ≤ 1) (hv : vs[k.toNat]? = some v) (h : Q v s)
    (hs : subscripted slice false (.ref l) (.int k u) = operate [.ref l, .int k u] (getItem (.ref l) (.int k u)) := by with_unfolding_all rfl) :
    wpAny (model prog w) A (subscriptTail value slice (.ref l) (.int k u)) Q E s := by
  have hl : s.heap.IsList l vs.toArray := News.isList N hm
  exact tail_any hl.typeIs slot_list_getitem.lookup (wpAny_getItem_list hl hb.1 (Int.lt_of_le_of_lt hb.2 (by decide)) (by simpa using hv) h) hs
theorem three_of {n : Nat} (h : n < 3) : n = 0 ∨ n = 1 ∨ n = 2 :=
  match n, h with
  | 0, _ => .inl rfl
  | 1, _ => .inr (.inl rfl)
  | 2, _ => .inr (.inr rfl)
theorem item3K (N : News h₀ L s.heap news) (hm : (l, lstO [v0, v1, v2] c) ∈ news) (h0 : 0 ≤ k) (h1 : k < 3)
    (h : ∀ v, (v = v0 ∨ v = v1 ∨ v = v2) → Q v s)
    (hs : subscripted slice false (.ref l) (.int k u) = operate [.ref l, .int k u] (getItem (.ref l) (.int k u)) := by with_unfolding_all rfl) :
    wpAny (model prog w) A (subscriptTail value slice (.ref l) (.int k u)) Q E s := by
  have hl : s.heap.IsList l [v0, v1, v2].toArray := News.isList N hm
  have hx : ∃ v, [v0, v1, v2][k.toNat]? = some v ∧ (v = v0 ∨ v = v1 ∨ v = v2) := by
    have : k.toNat = 0 ∨ k.toNat = 1 ∨ k.toNat = 2 := three_of ((Int.toNat_lt h0).mpr h1)
    rcases this with e | e | e <;> rw [e]
    · exact ⟨_, rfl, .inl rfl⟩
    · exact ⟨_, rfl, .inr (.inl rfl)⟩
    · exact ⟨_, rfl, .inr (.inr rfl)⟩
  obtain ⟨v, hx, hv⟩ := hx
  exact tail_any hl.typeIs slot_list_getitem.lookup (wpAny_getItem_list hl h0 (Int.lt_trans h1 (by decide)) (by simpa using hx) (h v hv)) hs
end
theorem fm3 (f : Int) : 0 ≤ Int.fmod f 3 ∧ Int.fmod f 3 < 3 := ⟨fmod_lo f (n := 3) (by decide), fmod_hi f (n := 3) (by decide)⟩
theorem manyA (f op : Int) : op = 0 → 0 ≤ Int.fmod f 9 ∧ Int.fmod f 9 ≤ 8 := fun _ => ⟨(fm9 f).1, Int.lt_add_one_iff.mp (fm9 f).2⟩
theorem manyB {op m : Int} (h : ¬ op = 0) : op = 0 → 0 ≤ m ∧ m ≤ 8 := fun e => (h e).elim
theorem manyC {m : Int} : (7 : Int) = 0 → 0 ≤ m ∧ m ≤ 8 := fun e => by cases e
theorem lines_Turn2_0 : True := by
  w_top off
  k_with_none
  k_with "mine eval Call" => (k_here; (with_reducible show wpAny _ _ (eval (Expr.Call (Expr.Name _ _) _ [] _) _) _ _ _); k_dflt (refine Call_ ?_))
  k_with "mine subscriptTail" => (k_here; (with_reducible show wpAny _ _ (subscriptTail _ _ (Value.ref _) (Value.int (Int.fmod _ 3) _)) _ _ _); k_dflt (refine' item3K ?N ?m ?a ?b ?_ ?s); (case N => k_asm); (case m => k_dflt k_mem); (case a => exact (fm3 _).1); (case b => exact (fm3 _).2); (case s => with_unfolding_all rfl); k_whole; intro v' hv')
  k_with "mine subscriptTail" => (k_here; (with_reducible show wpAny _ _ (subscriptTail _ _ (Value.ref _) (Value.int _ _)) _ _ _); k_dflt (refine' itemV ?N ?m ?a ?b ?_ ?s); (case N => k_asm); (case m => k_dflt k_mem); (case a => assumption); (case b => assumption); (case s => with_unfolding_all rfl); k_whole)
  k_with "mine subscriptTail Name Name ref int" => (k_here; (with_reducible show wpAny _ _ (subscriptTail _ _ (Value.ref _) (Value.int (Int.fmod _ 3) _)) _ _ _); k_dflt (refine' item3K ?N ?m ?a ?b ?_ ?s); (case N => k_asm); (case m => k_dflt k_mem); (case a => exact (fm3 _).1); (case b => exact (fm3 _).2); (case s => with_unfolding_all rfl); k_whole; intro v' hv')
  k_with "mine subscriptTail Name Name ref int" => (k_here; (with_reducible show wpAny _ _ (subscriptTail _ _ (Value.ref _) (Value.int _ _)) _ _ _); k_dflt (refine' itemV ?N ?m ?a ?b ?_ ?s); (case N => k_asm); (case m => k_dflt k_mem); (case a => assumption); (case b => assumption); (case s => with_unfolding_all rfl); k_whole)
  k_with "mine subscriptTail Name BinOp ref int" => (k_here; (with_reducible show wpAny _ _ (subscriptTail _ _ (Value.ref _) (Value.int (Int.fmod _ 3) _)) _ _ _); k_dflt (refine' item3K ?N ?m ?a ?b ?_ ?s); (case N => k_asm); (case m => k_dflt k_mem); (case a => exact (fm3 _).1); (case b => exact (fm3 _).2); (case s => with_unfolding_all rfl); k_whole; intro v' hv')
  k_with "mine subscriptTail Name BinOp ref int" => (k_here; (with_reducible show wpAny _ _ (subscriptTail _ _ (Value.ref _) (Value.int _ _)) _ _ _); k_dflt (refine' itemV ?N ?m ?a ?b ?_ ?s); (case N => k_asm); (case m => k_dflt k_mem); (case a => assumption); (case b => assumption); (case s => with_unfolding_all rfl); k_whole)
  trivial

def T2K (w : World) (h₀ : Heap) (L fa l : Addr) (cd : Value) (Q : Flow → Shared → Prop) (s : Shared) (i : Nat) (ti : Tok) (MA RA LM SG s0 s1 rw' : Addr) (led : List (Addr × Obj)) (dg nu le op wh : Int) (td tn tl to' tw : Tok) (fm : Str → Option Value) : Prop :=
  ∀ (sv : Value) (my : Int) (tm : Tok) (h' : Heap) (tk : Nat), (sv = .ref s0 ∨ sv = .ref s1 ∨ sv = .none) → (op = 0 → 0 ≤ my ∧ my ≤ 8) →
    Fr h₀ L h' (fun y => if y = "many" then some (.int my tm) else if y = "segment" then some sv else if y = "row" then some (.ref rw') else if y = "which" then some (.int wh tw) else if y = "op" then some (.int op to') else if y = "length" then some (.int le tl) else if y = "number" then some (.int nu tn) else if y = "digit" then some (.int dg td) else if y = "k" then some (.int (i : Int) ti) else if y = "rows" then some (.ref RA) else if y = "memories" then some (.ref MA) else if y = "segments" then some (.ref SG) else if y = "limits" then some (.ref LM) else if y = "script" then some (.ref l) else fm y) → News h₀ L h' led →
    wpC (model PySem.Challenge.rw_nm0116_01.row.prog w) (callerA.deeper (lawE L fa cd)) (execs (forB.drop 8) (lawE L fa cd)) Q (fun _ _ => False) { s with heap := h', toks := tk }
set_option maxHeartbeats 1000000 in
theorem turn_2 (w : World) (mean : ExcName → Option Value) (mg mb : Str → Option Value) (h₀ : Heap) (L fa l : Addr) (cd : Value) (vs : List Value) (ns : List Int) (s : Shared) (Q : Flow → Shared → Prop) (fm : Str → Option Value) (Mw Mo : Mem) (mm rr ll : List Value) (kM kR kL : Nat) (MA RA LM SG s0 s1 rw' ro : Addr) (ww wo : List Value) (kw ko : Nat) (ss0 ss1 : List Value) (i0 i1 ng : Nat) (I : Addr) (oI oP oM : Obj) (ZA : Addr) (zz : List Value) (kz : Nat) (pg : Int) (tp : Tok) (own : List (Addr × Obj)) (i : Nat) (ti : Tok) (dg nu le op wh : Int) (td tn tl to' tw : Tok) :
    ∀ (_B : Below callerA h₀ [] h₀) (_X : (MineH.top.heap_1 w.params).In h₀) (_T : Top MineH.top.view_1 (looseW MineH.top.view_1 []) mean mg mb h₀) (_hl : h₀.IsList l vs.toArray) (_hi : IntsAre vs ns) (_hn : ns.length ≤ 63) (_op : 0 ≤ op ∧ op < 9) (_wh : 0 ≤ wh ∧ wh ≤ 1) (_r : rr[wh.toNat]? = some (.ref rw'))
    (_F : Fr h₀ L s.heap (fun y => if y = "which" then some (.int wh tw) else if y = "op" then some (.int op to') else if y = "length" then some (.int le tl) else if y = "number" then some (.int nu tn) else if y = "digit" then some (.int dg td) else if y = "k" then some (.int (i : Int) ti) else if y = "rows" then some (.ref RA) else if y = "memories" then some (.ref MA) else if y = "segments" then some (.ref SG) else if y = "limits" then some (.ref LM) else if y = "script" then some (.ref l) else fm y)) (_N : News h₀ L s.heap ((I, oI) :: (RA, lstO rr kR) :: (rw', lstO ww kw) :: (ro, lstO wo ko) :: (MA, lstO mm kM) :: Mw.led (Mo.led ((SG, lstO [.ref s0, .ref s1, .none] ng) :: (s0, lstO ss0 i0) :: (s1, lstO ss1 i1) :: (LM, lstO ll kL) :: (ZA, lstO zz kz) :: (L + 1 + 1 + 1 + 1 + 1 + 1, oM) :: (L + 1 + 1 + 1, oP) :: own)))) (_k : T2K w h₀ L fa l cd Q s i ti MA RA LM SG s0 s1 rw' ((I, oI) :: (RA, lstO rr kR) :: (rw', lstO ww kw) :: (ro, lstO wo ko) :: (MA, lstO mm kM) :: Mw.led (Mo.led ((SG, lstO [.ref s0, .ref s1, .none] ng) :: (s0, lstO ss0 i0) :: (s1, lstO ss1 i1) :: (LM, lstO ll kL) :: (ZA, lstO zz kz) :: (L + 1 + 1 + 1 + 1 + 1 + 1, oM) :: (L + 1 + 1 + 1, oP) :: own))) dg nu le op wh td tn tl to' tw fm),
    wpC (model PySem.Challenge.rw_nm0116_01.row.prog w) (callerA.deeper (lawE L fa cd)) (execs (forB.drop 5) (lawE L fa cd)) Q (fun _ _ => False) s := by
  k_fill
  intro B X T hl hi hn hop hwh hr F N k
  unfold T2K at k
  unfold lawE at *
  conv =>
    enter [3, 1]
    whnf
  generalize hS : lawS = sc at *
  conv at hS =>
    lhs
    whnf
  subst hS
  generalize hB : forB = fb at *
  conv at hB =>
    lhs
    whnf
  subst hB
  refine wpC_execs_consA ?_
  k_steps
  refine wpC_execs_consA ?_
  k_steps
  refine wpC_execs_consA ?_
  k_steps
  all_goals first
    | exact k _ _ _ _ _ (by assumption) (manyA _ _) (by assumption) (by assumption)
    | exact k _ _ _ _ _ (by assumption) (manyB (by assumption)) (by assumption) (by assumption)
    | trace_state
end Mine
end
section
open PySem PySem.W PyProof.Rows PySem.Calls PyProof.Rows.LCg
set_option Elab.async false
namespace Mine
theorem plain_Turn3 : True := by
  w_top off
  k_with_none
  trivial
set_option maxRecDepth 100000
theorem lines_Turn3_0 : True := by
  w_top off
  k_with_none
  k_with "mine eval Call" => (k_here; (with_reducible show wpAny _ _ (eval (Expr.Call (Expr.Name _ _) _ [] _) _) _ _ _); k_dflt (refine Call_ ?_))
  k_with "mine call ref" => (k_here; (with_reducible show wpAny _ _ (call (Value.ref 218) [Value.ref _, Value.int _ _]) _ _ _); k_dflt (refine' cellTells_use ?B ?F ?X ?N ?T ?k ?l ?i ?f ?z (digit_tells _ _ _ _) ?d ?u ?_); (case B => k_asm); (case F => k_asm); (case X => k_asm); (case N => k_asm); (case T => k_asm); (case k => k_dflt (exact rfl)); (case l => assumption); (case i => assumption); (case f => exact lenFitT (by assumption)); (case z => first | decide | omega); (case d => ktr_room); (case u => first | decide | ktr_units); k_whole; intro t' h' tk' F' N')
  k_with "mine call builtin:len" => (k_here; (with_reducible show wpAny _ _ (call (Value.builtin "len") [Value.ref _]) _ _ _); k_dflt (refine' len_octK ?N ?m ?i ?z ?_); (case N => k_asm); (case m => k_dflt k_mem); (case i => assumption); (case z => omega))
  trivial

def T3K (w : World) (h₀ : Heap) (L fa l : Addr) (cd : Value) (Q : Flow → Shared → Prop) (s : Shared) (i : Nat) (ti : Tok) (MA RA LM SG rw' : Addr) (led : List (Addr × Obj)) (dg nu le op wh : Int) (td tn tl to' tw : Tok) (sv : Value) (my : Int) (tm : Tok) (fm : Str → Option Value) : Prop :=
  ∀ (xo : Int) (tx : Tok) (h' : Heap) (tk : Nat),
    Fr h₀ L h' (fun y => if y = "to" then some (.int xo tx) else if y = "many" then some (.int my tm) else if y = "segment" then some sv else if y = "row" then some (.ref rw') else if y = "which" then some (.int wh tw) else if y = "op" then some (.int op to') else if y = "length" then some (.int le tl) else if y = "number" then some (.int nu tn) else if y = "digit" then some (.int dg td) else if y = "k" then some (.int (i : Int) ti) else if y = "rows" then some (.ref RA) else if y = "memories" then some (.ref MA) else if y = "segments" then some (.ref SG) else if y = "limits" then some (.ref LM) else if y = "script" then some (.ref l) else fm y) → News h₀ L h' led →
    wpC (model PySem.Challenge.rw_nm0116_01.row.prog w) (callerA.deeper (lawE L fa cd)) (execs (forB.drop 9) (lawE L fa cd)) Q (fun _ _ => False) { s with heap := h', toks := tk }
set_option maxHeartbeats 1000000 in
theorem turn_3 (w : World) (mean : ExcName → Option Value) (mg mb : Str → Option Value) (h₀ : Heap) (L fa l : Addr) (cd : Value) (vs : List Value) (ns : List Int) (s : Shared) (Q : Flow → Shared → Prop) (fm : Str → Option Value) (Mw Mo : Mem) (mm rr ll : List Value) (kM kR kL : Nat) (MA RA LM SG s0 s1 rw' ro : Addr) (ww wo : List Value) (kw ko : Nat) (ss0 ss1 : List Value) (i0 i1 ng : Nat) (I : Addr) (oI oP oM : Obj) (ZA : Addr) (zz : List Value) (kz : Nat) (pg : Int) (tp : Tok) (own : List (Addr × Obj)) (i : Nat) (ti : Tok) (dg nu le op wh : Int) (td tn tl to' tw : Tok) (sv : Value) (my : Int) (tm : Tok) :
    ∀ (_B : Below callerA h₀ [] h₀) (_X : (MineH.top.heap_1 w.params).In h₀) (_T : Top MineH.top.view_1 (looseW MineH.top.view_1 []) mean mg mb h₀) (_hl : h₀.IsList l vs.toArray) (_hi : IntsAre vs ns) (_hn : ns.length ≤ 63) (_i : i < 15) (_iw : IntsAre ww (octInts Mw.d)) (_dz : Mw.d.length ≤ 900)
    (_F : Fr h₀ L s.heap (fun y => if y = "many" then some (.int my tm) else if y = "segment" then some sv else if y = "row" then some (.ref rw') else if y = "which" then some (.int wh tw) else if y = "op" then some (.int op to') else if y = "length" then some (.int le tl) else if y = "number" then some (.int nu tn) else if y = "digit" then some (.int dg td) else if y = "k" then some (.int (i : Int) ti) else if y = "rows" then some (.ref RA) else if y = "memories" then some (.ref MA) else if y = "segments" then some (.ref SG) else if y = "limits" then some (.ref LM) else if y = "script" then some (.ref l) else fm y)) (_N : News h₀ L s.heap ((I, oI) :: (RA, lstO rr kR) :: (rw', lstO ww kw) :: (ro, lstO wo ko) :: (MA, lstO mm kM) :: Mw.led (Mo.led ((SG, lstO [.ref s0, .ref s1, .none] ng) :: (s0, lstO ss0 i0) :: (s1, lstO ss1 i1) :: (LM, lstO ll kL) :: (ZA, lstO zz kz) :: (L + 1 + 1 + 1 + 1 + 1 + 1, oM) :: (L + 1 + 1 + 1, oP) :: own)))) (_k : T3K w h₀ L fa l cd Q s i ti MA RA LM SG rw' ((I, oI) :: (RA, lstO rr kR) :: (rw', lstO ww kw) :: (ro, lstO wo ko) :: (MA, lstO mm kM) :: Mw.led (Mo.led ((SG, lstO [.ref s0, .ref s1, .none] ng) :: (s0, lstO ss0 i0) :: (s1, lstO ss1 i1) :: (LM, lstO ll kL) :: (ZA, lstO zz kz) :: (L + 1 + 1 + 1 + 1 + 1 + 1, oM) :: (L + 1 + 1 + 1, oP) :: own))) dg nu le op wh td tn tl to' tw sv my tm fm),
    wpC (model PySem.Challenge.rw_nm0116_01.row.prog w) (callerA.deeper (lawE L fa cd)) (execs (forB.drop 8) (lawE L fa cd)) Q (fun _ _ => False) s := by
  k_fill
  intro B X T hl hi hn hi15 iw dz F N k
  unfold T3K at k
  have ib : (0 : Int) ≤ (i : Int) ∧ (i : Int) < 15 := ⟨Int.natCast_nonneg _, by omega⟩
  have ib1 : (0 : Int) ≤ (i : Int) := Int.natCast_nonneg _
  have ib2 : (i : Int) < 1000 := by omega
  unfold lawE at *
  conv =>
    enter [3, 1]
    whnf
  generalize hS : lawS = sc at *
  conv at hS =>
    lhs
    whnf
  subst hS
  generalize hB : forB = fb at *
  conv at hB =>
    lhs
    whnf
  subst hB
  refine wpC_execs_consA ?_
  k_steps
  all_goals first
    | exact k _ _ _ _ (by assumption) (by assumption)
    | trace_state
end Mine
end
section
open PySem PySem.W PyProof.Rows PySem.Calls PyProof.Rows.LCg
set_option Elab.async false
namespace Mine
theorem plain_Turn4 : True := by
  w_top off
  k_with_none
  trivial
set_option maxRecDepth 100000
theorem item1mV {prog : Program} {w : World} {A : Around} {E : Value → Shared → Prop} {s : Shared} {h₀ : Heap} {L l : Addr} {news : List (Addr × Obj)} {vs : List Value} {v : Value} {c : Nat} {k : Int} {u : Tok} {value slice : PySem.Expr} {Q : Value → Shared → Prop} (N : News h₀ L s.heap news) (hm : (l, lstO vs c) ∈ news) (hb : 0 ≤ k ∧ k ≤ 1) (hv : vs[(1 - k).toNat]? = some v) (h : Q v s)
    (hs : subscripted slice false (.ref l) (.int (1 - k) u) = operate [.ref l, .int (1 - k) u] (getItem (.ref l) (.int (1 - k) u)) := by with_unfolding_all rfl) :
    wpAny (model prog w) A (subscriptTail value slice (.ref l) (.int (1 - k) u)) Q E s := itemV N hm ⟨by omega, by omega⟩ hv h hs
theorem lines_Turn4_0 : True := by
  w_top off
  k_with_none
  k_with "mine eval Call" => (k_here; (with_reducible show wpAny _ _ (eval (Expr.Call (Expr.Name _ _) _ [] _) _) _ _ _); k_dflt (refine Call_ ?_))
  k_with "mine subscriptTail" => (k_here; (with_reducible show wpAny _ _ (subscriptTail _ _ (Value.ref _) (Value.int (1 - _) _)) _ _ _); k_dflt (refine' item1mV ?N ?m ?a ?b ?_ ?s); (case N => k_asm); (case m => k_dflt k_mem); (case a => assumption); (case b => assumption); (case s => with_unfolding_all rfl); k_whole)
  k_with "mine subscriptTail Name BinOp ref int" => (k_here; (with_reducible show wpAny _ _ (subscriptTail _ _ (Value.ref _) (Value.int (1 - _) _)) _ _ _); k_dflt (refine' item1mV ?N ?m ?a ?b ?_ ?s); (case N => k_asm); (case m => k_dflt k_mem); (case a => assumption); (case b => assumption); (case s => with_unfolding_all rfl); k_whole)
  trivial

def T4K (w : World) (h₀ : Heap) (L fa l : Addr) (cd : Value) (Q : Flow → Shared → Prop) (s : Shared) (i : Nat) (ti : Tok) (MA RA LM SG rw' : Addr) (led : List (Addr × Obj)) (dg nu le op wh : Int) (td tn tl to' tw : Tok) (sv : Value) (my : Int) (tm : Tok) (xo : Int) (tx : Tok) (ns' ms sg : List Int) (fm : Str → Option Value) : Prop :=
  ∀ (D : Addr) (ys : List Value) (ps : List Int) (n : Nat) (h' : Heap) (tk : Nat), IntsAre ys ps → ps = sourceI op nu my ns' ms sg →
    Fr h₀ L h' (fun y => if y = "source" then some (.ref D) else if y = "to" then some (.int xo tx) else if y = "many" then some (.int my tm) else if y = "segment" then some sv else if y = "row" then some (.ref rw') else if y = "which" then some (.int wh tw) else if y = "op" then some (.int op to') else if y = "length" then some (.int le tl) else if y = "number" then some (.int nu tn) else if y = "digit" then some (.int dg td) else if y = "k" then some (.int (i : Int) ti) else if y = "rows" then some (.ref RA) else if y = "memories" then some (.ref MA) else if y = "segments" then some (.ref SG) else if y = "limits" then some (.ref LM) else if y = "script" then some (.ref l) else fm y) → News h₀ L h' ((D, lstO ys n) :: led) →
    wpC (model PySem.Challenge.rw_nm0116_01.row.prog w) (callerA.deeper (lawE L fa cd)) (execs (forB.drop 10) (lawE L fa cd)) Q (fun _ _ => False) { s with heap := h', toks := tk }
set_option maxHeartbeats 1000000 in
theorem turn_4 (w : World) (mean : ExcName → Option Value) (mg mb : Str → Option Value) (h₀ : Heap) (L fa l : Addr) (cd : Value) (vs : List Value) (ns : List Int) (s : Shared) (Q : Flow → Shared → Prop) (fm : Str → Option Value) (Mw Mo : Mem) (mm rr ll : List Value) (kM kR kL : Nat) (MA RA LM SG s0 s1 rw' ro : Addr) (ww wo : List Value) (kw ko : Nat) (ss0 ss1 : List Value) (i0 i1 ng : Nat) (I : Addr) (oI oP oM : Obj) (ZA : Addr) (zz : List Value) (kz : Nat) (pg : Int) (tp : Tok) (own : List (Addr × Obj)) (i : Nat) (ti : Tok) (dg nu le op wh : Int) (td tn tl to' tw : Tok) (sv : Value) (my : Int) (tm : Tok) (xo : Int) (tx : Tok) (z : Addr) (zs : List Value) (zi : Nat) (ls sg : List Int) :
    ∀ (_B : Below callerA h₀ [] h₀) (_X : (MineH.top.heap_1 w.params).In h₀) (_T : Top MineH.top.view_1 (looseW MineH.top.view_1 []) mean mg mb h₀) (_hl : h₀.IsList l vs.toArray) (_hi : IntsAre vs ns) (_hn : ns.length ≤ 63) (_wh : 0 ≤ wh ∧ wh ≤ 1) (_r : rr[(1 - wh).toNat]? = some (.ref ro)) (_iw : IntsAre ww (octInts Mw.d)) (_io : IntsAre wo (octInts Mo.d)) (_il : IntsAre zs ls) (_dz : (octInts Mw.d).length ≤ 1000) (_m : op = 0 → 0 ≤ my ∧ my ≤ 1000)
    (_sv : (sv = .none ∧ sg = []) ∨ (sv = .ref z ∧ sg = ls)) (_F : Fr h₀ L s.heap (fun y => if y = "to" then some (.int xo tx) else if y = "many" then some (.int my tm) else if y = "segment" then some sv else if y = "row" then some (.ref rw') else if y = "which" then some (.int wh tw) else if y = "op" then some (.int op to') else if y = "length" then some (.int le tl) else if y = "number" then some (.int nu tn) else if y = "digit" then some (.int dg td) else if y = "k" then some (.int (i : Int) ti) else if y = "rows" then some (.ref RA) else if y = "memories" then some (.ref MA) else if y = "segments" then some (.ref SG) else if y = "limits" then some (.ref LM) else if y = "script" then some (.ref l) else fm y)) (_N : News h₀ L s.heap ((I, oI) :: (RA, lstO rr kR) :: (rw', lstO ww kw) :: (ro, lstO wo ko) :: (MA, lstO mm kM) :: Mw.led (Mo.led ((SG, lstO [.ref s0, .ref s1, .none] ng) :: (s0, lstO ss0 i0) :: (s1, lstO ss1 i1) :: (LM, lstO ll kL) :: (ZA, lstO zz kz) :: (L + 1 + 1 + 1 + 1 + 1 + 1, oM) :: (L + 1 + 1 + 1, oP) :: own)))) (_z : (z, lstO zs zi) ∈ ((I, oI) :: (RA, lstO rr kR) :: (rw', lstO ww kw) :: (ro, lstO wo ko) :: (MA, lstO mm kM) :: Mw.led (Mo.led ((SG, lstO [.ref s0, .ref s1, .none] ng) :: (s0, lstO ss0 i0) :: (s1, lstO ss1 i1) :: (LM, lstO ll kL) :: (ZA, lstO zz kz) :: (L + 1 + 1 + 1 + 1 + 1 + 1, oM) :: (L + 1 + 1 + 1, oP) :: own)))) (_k : T4K w h₀ L fa l cd Q s i ti MA RA LM SG rw' ((I, oI) :: (RA, lstO rr kR) :: (rw', lstO ww kw) :: (ro, lstO wo ko) :: (MA, lstO mm kM) :: Mw.led (Mo.led ((SG, lstO [.ref s0, .ref s1, .none] ng) :: (s0, lstO ss0 i0) :: (s1, lstO ss1 i1) :: (LM, lstO ll kL) :: (ZA, lstO zz kz) :: (L + 1 + 1 + 1 + 1 + 1 + 1, oM) :: (L + 1 + 1 + 1, oP) :: own))) dg nu le op wh td tn tl to' tw sv my tm xo tx (octInts Mw.d) (octInts Mo.d) sg fm),
    wpC (model PySem.Challenge.rw_nm0116_01.row.prog w) (callerA.deeper (lawE L fa cd)) (execs (forB.drop 9) (lawE L fa cd)) Q (fun _ _ => False) s := by
  k_fill
  intro B X T hl hi hn hwh hr iw io il dz hm hsv F N hz k
  unfold T4K at k
  unfold lawE at *
  conv =>
    enter [3, 1]
    whnf
  generalize hS : lawS = sc at *
  conv at hS =>
    lhs
    whnf
  subst hS
  generalize hB : forB = fb at *
  conv at hB =>
    lhs
    whnf
  subst hB
  refine wpC_execs_consA ?_
  iterate 24 walk1
  refine' Calls.use (source_calls w rw' ro ww wo zs (octInts Mw.d) (octInts Mo.d) ls kw ko zi op nu my sv _ _ _ iw io il dz hm _ z sg hsv) ?B ?F ?X ?N ?T ?k ?d ?u ?_ ?x
  case B => k_asm
  case F => k_asm
  case X => k_asm
  case N => exact news_dup3 (by k_asm) (by k_dflt k_mem) (by k_dflt k_mem) hz
  case T => k_asm
  case k => k_dflt (exact rfl)
  case d => ktr_room
  case u => first | decide | ktr_units
  case x => exact fun _ _ _ _ _ _ _ _ _ hx _ _ => hx.elim
  k_whole
  intro r n' h' tk' hP F' N'
  obtain ⟨D, ys, ps, n, hr, hy, hp, hn⟩ := hP
  subst hr
  subst hn
  k_steps
  all_goals first
    | exact k _ _ _ _ _ _ (by assumption) (by assumption) (by assumption) (by assumption)
    | trace_state
end Mine
end
section
open PySem PySem.W PyProof.Rows PySem.Calls PyProof.Rows.LCg
set_option Elab.async false
namespace Mine
theorem plain_Turn5 : True := by
  w_top off
  k_with_none
  trivial
set_option maxRecDepth 100000
theorem lines_Turn5_0 : True := by
  w_top off
  k_with_none
  k_with "mine eval Call" => (k_here; (with_reducible show wpAny _ _ (eval (Expr.Call (Expr.Name _ _) _ [] _) _) _ _ _); k_dflt (refine Call_ ?_))
  trivial
theorem inBeg {op be : Int} (h : ([1, 6, 8].any fun x => x == op) = true) : op ≠ 1 → op ≠ 6 → op ≠ 8 → be = 0 := by
  intro a b c
  simp at h
  omega
theorem len_intK {prog : Program} {w : World} {A : Around} {E : Value → Shared → Prop} {s : Shared} {h₀ : Heap} {L D : Addr} {news : List (Addr × Obj)} {vs : List Value} {ns : List Int} {k : Nat} {Q : Value → Shared → Prop} (N : News h₀ L s.heap news) (hm : (D, lstO vs k) ∈ news) (hi : IntsAre vs ns) (hz : ns.length ≤ 1000) (h : Q (.int (ns.length : Int) (s.toks + 1)) { s with toks := s.toks + 1 + 1 }) :
    wpAny (model prog w) A (call (.builtin "len") [.ref D]) Q E s := by
  have hl : s.heap.IsList D vs.toArray := News.isList N hm
  have e : vs.toArray.size = ns.length := by rw [List.size_toArray, hi.length]
  refine Calls.call_len_list hl (by omega) ?_
  rw [e]
  exact h
theorem lines_Turn5_1 : True := by
  k_with "mine call builtin:len" => (k_here; (with_reducible show wpAny _ _ (call (Value.builtin "len") [Value.ref _]) _ _ _); k_dflt (refine' len_intK ?N ?m ?i ?z ?_); (case N => k_asm); (case m => k_dflt k_mem); (case i => assumption); (case z => assumption))
  trivial

def T5K (w : World) (h₀ : Heap) (L fa l : Addr) (cd : Value) (Q : Flow → Shared → Prop) (s : Shared) (i : Nat) (ti : Tok) (MA RA LM SG rw' D : Addr) (led : List (Addr × Obj)) (dg nu le op wh : Int) (td tn tl to' tw : Tok) (sv : Value) (my : Int) (tm : Tok) (xo : Int) (tx : Tok) (fm : Str → Option Value) : Prop :=
  ∀ (be : Int) (tb : Tok) (h' : Heap) (tk : Nat), (op ≠ 1 → op ≠ 6 → op ≠ 8 → be = 0) →
    Fr h₀ L h' (fun y => if y = "begin" then some (.int be tb) else if y = "source" then some (.ref D) else if y = "to" then some (.int xo tx) else if y = "many" then some (.int my tm) else if y = "segment" then some sv else if y = "row" then some (.ref rw') else if y = "which" then some (.int wh tw) else if y = "op" then some (.int op to') else if y = "length" then some (.int le tl) else if y = "number" then some (.int nu tn) else if y = "digit" then some (.int dg td) else if y = "k" then some (.int (i : Int) ti) else if y = "rows" then some (.ref RA) else if y = "memories" then some (.ref MA) else if y = "segments" then some (.ref SG) else if y = "limits" then some (.ref LM) else if y = "script" then some (.ref l) else fm y) → News h₀ L h' led →
    wpC (model PySem.Challenge.rw_nm0116_01.row.prog w) (callerA.deeper (lawE L fa cd)) (execs (forB.drop 11) (lawE L fa cd)) Q (fun _ _ => False) { s with heap := h', toks := tk }
set_option maxHeartbeats 1000000 in
theorem turn_5 (w : World) (mean : ExcName → Option Value) (mg mb : Str → Option Value) (h₀ : Heap) (L fa l : Addr) (cd : Value) (vs : List Value) (ns : List Int) (s : Shared) (Q : Flow → Shared → Prop) (fm : Str → Option Value) (Mw Mo : Mem) (mm rr ll : List Value) (kM kR kL : Nat) (MA RA LM SG s0 s1 rw' ro : Addr) (ww wo : List Value) (kw ko : Nat) (ss0 ss1 : List Value) (i0 i1 ng : Nat) (I : Addr) (oI oP oM : Obj) (ZA : Addr) (zz : List Value) (kz : Nat) (pg : Int) (tp : Tok) (own : List (Addr × Obj)) (i : Nat) (ti : Tok) (dg nu le op wh : Int) (td tn tl to' tw : Tok) (sv : Value) (my : Int) (tm : Tok) (xo : Int) (tx : Tok) (D : Addr) (ys : List Value) (ps : List Int) (nD : Nat) :
    ∀ (_B : Below callerA h₀ [] h₀) (_X : (MineH.top.heap_1 w.params).In h₀) (_T : Top MineH.top.view_1 (looseW MineH.top.view_1 []) mean mg mb h₀) (_hl : h₀.IsList l vs.toArray) (_hi : IntsAre vs ns) (_hn : ns.length ≤ 63) (_hy : IntsAre ys ps) (_pz : ps.length ≤ 1000)
    (_F : Fr h₀ L s.heap (fun y => if y = "source" then some (.ref D) else if y = "to" then some (.int xo tx) else if y = "many" then some (.int my tm) else if y = "segment" then some sv else if y = "row" then some (.ref rw') else if y = "which" then some (.int wh tw) else if y = "op" then some (.int op to') else if y = "length" then some (.int le tl) else if y = "number" then some (.int nu tn) else if y = "digit" then some (.int dg td) else if y = "k" then some (.int (i : Int) ti) else if y = "rows" then some (.ref RA) else if y = "memories" then some (.ref MA) else if y = "segments" then some (.ref SG) else if y = "limits" then some (.ref LM) else if y = "script" then some (.ref l) else fm y)) (_N : News h₀ L s.heap ((D, lstO ys nD) :: ((I, oI) :: (RA, lstO rr kR) :: (rw', lstO ww kw) :: (ro, lstO wo ko) :: (MA, lstO mm kM) :: Mw.led (Mo.led ((SG, lstO [.ref s0, .ref s1, .none] ng) :: (s0, lstO ss0 i0) :: (s1, lstO ss1 i1) :: (LM, lstO ll kL) :: (ZA, lstO zz kz) :: (L + 1 + 1 + 1 + 1 + 1 + 1, oM) :: (L + 1 + 1 + 1, oP) :: own))))) (_k : T5K w h₀ L fa l cd Q s i ti MA RA LM SG rw' D ((D, lstO ys nD) :: ((I, oI) :: (RA, lstO rr kR) :: (rw', lstO ww kw) :: (ro, lstO wo ko) :: (MA, lstO mm kM) :: Mw.led (Mo.led ((SG, lstO [.ref s0, .ref s1, .none] ng) :: (s0, lstO ss0 i0) :: (s1, lstO ss1 i1) :: (LM, lstO ll kL) :: (ZA, lstO zz kz) :: (L + 1 + 1 + 1 + 1 + 1 + 1, oM) :: (L + 1 + 1 + 1, oP) :: own)))) dg nu le op wh td tn tl to' tw sv my tm xo tx fm),
    wpC (model PySem.Challenge.rw_nm0116_01.row.prog w) (callerA.deeper (lawE L fa cd)) (execs (forB.drop 10) (lawE L fa cd)) Q (fun _ _ => False) s := by
  k_fill
  intro B X T hl hi hn hy pz F N k
  unfold T5K at k
  unfold lawE at *
  conv =>
    enter [3, 1]
    whnf
  generalize hS : lawS = sc at *
  conv at hS =>
    lhs
    whnf
  subst hS
  generalize hB : forB = fb at *
  conv at hB =>
    lhs
    whnf
  subst hB
  refine wpC_execs_consA ?_
  k_steps
  all_goals first
    | exact k _ _ _ _ (fun _ _ _ => rfl) (by assumption) (News.perm (by assumption) fun p hp => .tail _ hp)
    | exact k _ _ _ _ (inBeg (by assumption)) (by assumption) (News.perm (by assumption) fun p hp => .tail _ hp)
end Mine
end
section
open PySem PySem.W PyProof.Rows PySem.Calls PyProof.Rows.LCg
set_option Elab.async false
namespace Mine
theorem plain_Turn6 : True := by
  w_top off
  k_with_none
  trivial
set_option maxRecDepth 100000
theorem lines_Turn6_0 : True := by
  w_top off
  k_with_none
  k_with "mine eval Call" => (k_here; (with_reducible show wpAny _ _ (eval (Expr.Call (Expr.Name _ _) _ [] _) _) _ _ _); k_dflt (refine Call_ ?_))
  trivial
theorem fr_twice {h₀ h : Heap} {L : Addr} {m : Str → Option Value} {x : Str} {a b : Option Value} (F : Fr h₀ L h (fun y => if y = x then a else if y = x then b else m y)) : Fr h₀ L h (fun y => if y = x then a else m y) := by
  have e : (fun y => if y = x then a else if y = x then b else m y) = (fun y => if y = x then a else m y) := by
    funext y
    by_cases q : y = x
    · rw [if_pos q, if_pos q]
    · rw [if_neg q, if_neg q, if_neg q]
  rw [← e]; exact F
theorem lines_Turn6_1 : True := by
  k_with "mine call type:bytes" => (k_here; (with_reducible show wpAny _ _ (call (Value.type "bytes") [Value.ref _]) _ _ _); k_dflt (refine' bytes_octK ?h ?F ?N ?m ?i ?z ?_); (case h => exact rfl); (case F => k_asm); (case N => k_asm); (case m => first | assumption | exact .head _ | exact .tail _ (by assumption)); (case i => assumption); (case z => assumption); k_whole; intro h' t' k' F' N')
  trivial

def T6K (w : World) (h₀ : Heap) (L fa l : Addr) (cd : Value) (Q : Flow → Shared → Prop) (s : Shared) (i : Nat) (ti : Tok) (MA RA LM SG rw' D z : Addr) (led : List (Addr × Obj)) (dg nu le op wh : Int) (td tn tl to' tw : Tok) (sv : Value) (my : Int) (tm : Tok) (xo : Int) (tx : Tok) (be : Int) (tb : Tok) (gp gz : List UInt8) (fm : Str → Option Value) : Prop :=
  ∀ (hv : Value) (h' : Heap) (tk : Nat), ((op = 0 ∧ ∃ t, hv = .bytes gp.toArray t) ∨ (op ≠ 0 ∧ ((sv = .none ∧ hv = .none) ∨ ∃ t, sv = .ref z ∧ hv = .bytes gz.toArray t))) →
    Fr h₀ L h' (fun y => if y = "handed" then some hv else if y = "begin" then some (.int be tb) else if y = "source" then some (.ref D) else if y = "to" then some (.int xo tx) else if y = "many" then some (.int my tm) else if y = "segment" then some sv else if y = "row" then some (.ref rw') else if y = "which" then some (.int wh tw) else if y = "op" then some (.int op to') else if y = "length" then some (.int le tl) else if y = "number" then some (.int nu tn) else if y = "digit" then some (.int dg td) else if y = "k" then some (.int (i : Int) ti) else if y = "rows" then some (.ref RA) else if y = "memories" then some (.ref MA) else if y = "segments" then some (.ref SG) else if y = "limits" then some (.ref LM) else if y = "script" then some (.ref l) else fm y) → News h₀ L h' led →
    wpC (model PySem.Challenge.rw_nm0116_01.row.prog w) (callerA.deeper (lawE L fa cd)) (execs (forB.drop 13) (lawE L fa cd)) Q (fun _ _ => False) { s with heap := h', toks := tk }
set_option maxHeartbeats 1000000 in
theorem turn_6 (w : World) (mean : ExcName → Option Value) (mg mb : Str → Option Value) (h₀ : Heap) (L fa l : Addr) (cd : Value) (vs : List Value) (ns : List Int) (s : Shared) (Q : Flow → Shared → Prop) (fm : Str → Option Value) (Mw Mo : Mem) (mm rr ll : List Value) (kM kR kL : Nat) (MA RA LM SG s0 s1 rw' ro : Addr) (ww wo : List Value) (kw ko : Nat) (ss0 ss1 : List Value) (i0 i1 ng : Nat) (I : Addr) (oI oP oM : Obj) (ZA : Addr) (zz : List Value) (kz : Nat) (pg : Int) (tp : Tok) (own : List (Addr × Obj)) (i : Nat) (ti : Tok) (dg nu le op wh : Int) (td tn tl to' tw : Tok) (sv : Value) (my : Int) (tm : Tok) (xo : Int) (tx : Tok) (D : Addr) (ys : List Value) (nD : Nat) (be : Int) (tb : Tok) (z : Addr) (zs : List Value) (zi : Nat) (gp gz : List UInt8) :
    ∀ (_B : Below callerA h₀ [] h₀) (_X : (MineH.top.heap_1 w.params).In h₀) (_T : Top MineH.top.view_1 (looseW MineH.top.view_1 []) mean mg mb h₀) (_hl : h₀.IsList l vs.toArray) (_hi : IntsAre vs ns) (_hn : ns.length ≤ 63) (_hy : IntsAre ys (octInts gp)) (_pz : gp.length ≤ 1000000) (_hq : IntsAre zs (octInts gz)) (_qz : gz.length ≤ 1000000) (_sv : sv = .none ∨ sv = .ref z)
    (_F : Fr h₀ L s.heap (fun y => if y = "begin" then some (.int be tb) else if y = "source" then some (.ref D) else if y = "to" then some (.int xo tx) else if y = "many" then some (.int my tm) else if y = "segment" then some sv else if y = "row" then some (.ref rw') else if y = "which" then some (.int wh tw) else if y = "op" then some (.int op to') else if y = "length" then some (.int le tl) else if y = "number" then some (.int nu tn) else if y = "digit" then some (.int dg td) else if y = "k" then some (.int (i : Int) ti) else if y = "rows" then some (.ref RA) else if y = "memories" then some (.ref MA) else if y = "segments" then some (.ref SG) else if y = "limits" then some (.ref LM) else if y = "script" then some (.ref l) else fm y)) (_N : News h₀ L s.heap ((D, lstO ys nD) :: ((I, oI) :: (RA, lstO rr kR) :: (rw', lstO ww kw) :: (ro, lstO wo ko) :: (MA, lstO mm kM) :: Mw.led (Mo.led ((SG, lstO [.ref s0, .ref s1, .none] ng) :: (s0, lstO ss0 i0) :: (s1, lstO ss1 i1) :: (LM, lstO ll kL) :: (ZA, lstO zz kz) :: (L + 1 + 1 + 1 + 1 + 1 + 1, oM) :: (L + 1 + 1 + 1, oP) :: own))))) (_z : (z, lstO zs zi) ∈ ((D, lstO ys nD) :: ((I, oI) :: (RA, lstO rr kR) :: (rw', lstO ww kw) :: (ro, lstO wo ko) :: (MA, lstO mm kM) :: Mw.led (Mo.led ((SG, lstO [.ref s0, .ref s1, .none] ng) :: (s0, lstO ss0 i0) :: (s1, lstO ss1 i1) :: (LM, lstO ll kL) :: (ZA, lstO zz kz) :: (L + 1 + 1 + 1 + 1 + 1 + 1, oM) :: (L + 1 + 1 + 1, oP) :: own))))) (_k : T6K w h₀ L fa l cd Q s i ti MA RA LM SG rw' D z ((D, lstO ys nD) :: ((I, oI) :: (RA, lstO rr kR) :: (rw', lstO ww kw) :: (ro, lstO wo ko) :: (MA, lstO mm kM) :: Mw.led (Mo.led ((SG, lstO [.ref s0, .ref s1, .none] ng) :: (s0, lstO ss0 i0) :: (s1, lstO ss1 i1) :: (LM, lstO ll kL) :: (ZA, lstO zz kz) :: (L + 1 + 1 + 1 + 1 + 1 + 1, oM) :: (L + 1 + 1 + 1, oP) :: own)))) dg nu le op wh td tn tl to' tw sv my tm xo tx be tb gp gz fm),
    wpC (model PySem.Challenge.rw_nm0116_01.row.prog w) (callerA.deeper (lawE L fa cd)) (execs (forB.drop 11) (lawE L fa cd)) Q (fun _ _ => False) s := by
  k_fill
  intro B X T hl hi hn hy pz hq qz hsv F N hz k
  unfold T6K at k
  unfold lawE at *
  conv =>
    enter [3, 1]
    whnf
  generalize hS : lawS = sc at *
  conv at hS =>
    lhs
    whnf
  subst hS
  generalize hB : forB = fb at *
  conv at hB =>
    lhs
    whnf
  subst hB
  rcases hsv with hsv | hsv <;> subst hsv
  all_goals
    refine wpC_execs_consA ?_
    k_steps
  all_goals
    refine wpC_execs_consA ?_
    k_steps
  all_goals first
    | exact k _ _ _ (.inl ⟨by assumption, _, rfl⟩) (fr_twice (by assumption)) (by assumption)
    | exact k _ _ _ (.inr ⟨by assumption, .inl ⟨rfl, rfl⟩⟩) (fr_twice (by assumption)) (by assumption)
    | exact k _ _ _ (.inr ⟨by assumption, .inr ⟨_, rfl, rfl⟩⟩) (fr_twice (by assumption)) (by assumption)
    | trace_state
end Mine
end
section
open PySem PySem.W PyProof.Rows PySem.Calls
set_option Elab.async false
namespace Mine
theorem rangeKs_map {α : Type} (f : Int → α) (n : Nat) : List.map f (rangeKs 0 n) = List.map (fun i : Nat => f (i : Int)) (List.range n) := by
  apply List.ext_getElem?
  intro i
  by_cases h : i < n
  · simp [rangeKs, h]
  · simp [rangeKs, h]
theorem part_oct {d : List UInt8} {a m : Int} (h : InL (octInts d) a m) : partI (octInts d) a m = octInts (part d a.toNat (a + m - a).toNat) := by
  obtain ⟨h0, h1, h2⟩ := h
  rw [octInts_length] at h2
  unfold partI
  rw [rangeKs_map]
  apply List.ext_getElem?
  intro i
  by_cases hi : i < m.toNat
  · have e1 : (a + (i : Int)).toNat = a.toNat + i := by omega
    have e2 : a.toNat + i < d.length := by omega
    have e3 : (a + m - a).toNat = m.toNat := by omega
    have e4 : (m - 0).toNat = m.toNat := by omega
    simp [octInts, part, hi, e1, e2, e3, e4]
  · have e3 : (a + m - a).toNat = m.toNat := by omega
    have e4 : (m - 0).toNat = m.toNat := by omega
    simp [octInts, part, hi, e3, e4]
    omega
theorem oct_get (d : List UInt8) (i : Nat) : (octInts d)[i]? = (d[i]?).map fun b => (b.toNat : Int) := by simp [octInts]
theorem paste_get {d o : List UInt8} {t i : Nat} (h : t + o.length ≤ d.length) : (paste d t o)[i]? = if i < t then d[i]? else if i < t + o.length then o[i - t]? else d[i]? := by
  unfold paste
  by_cases a : i < t
  · rw [if_pos a, List.append_assoc, List.getElem?_append_left (by simp; omega), List.getElem?_take_of_lt a]
  · rw [if_neg a]
    by_cases b : i < t + o.length
    · rw [if_pos b, List.getElem?_append_left (by simp; omega), List.getElem?_append_right (by simp; omega)]
      congr 1; simp; omega
    · rw [if_neg b, List.getElem?_append_right (by simp; omega), List.getElem?_drop]
      congr 1; simp; omega
theorem moved_paste {d o : List UInt8} {ms : List Int} {to begin many : Int} (h1 : InL ms begin many) (h2 : InL (octInts d) to many) (ho : partI ms begin many = octInts o) : movedI (octInts d) ms to begin many = octInts (paste d to.toNat o) := by
  have hl := partI_length h1
  rw [ho, octInts_length] at hl
  obtain ⟨a0, a1, a2⟩ := h2
  rw [octInts_length] at a2
  unfold movedI
  rw [ho, rangeKs_map]
  apply List.ext_getElem?
  intro i
  rw [oct_get, paste_get (by omega), octInts_length, List.getElem?_map]
  have el : (((d.length : Nat) : Int) - 0).toNat = d.length := by omega
  rw [el]
  by_cases hi : i < d.length
  · rw [List.getElem?_range hi, Option.map_some]
    by_cases c1 : to ≤ (i : Int)
    · have d1 : ¬ i < to.toNat := by omega
      rw [if_neg d1]
      by_cases c2 : (i : Int) < to + many
      · have e1 : ((i : Int) - to).toNat = i - to.toNat := by omega
        rw [if_pos ⟨c1, c2⟩, if_pos (by omega), e1, List.getD_eq_getElem?_getD, oct_get, List.getElem?_eq_getElem (by omega)]
        rfl
      · rw [if_neg (fun z => c2 z.2), if_pos ⟨c1, c2⟩, if_neg (by omega), List.getD_eq_getElem?_getD, oct_get, Int.toNat_natCast, List.getElem?_eq_getElem hi]
        rfl
    · rw [if_neg (fun z => c1 z.1), if_neg (fun z => c1 z.1), if_pos (by omega), List.getD_eq_getElem?_getD, oct_get, Int.toNat_natCast, List.getElem?_eq_getElem hi]
      rfl
  · rw [if_neg (by omega), if_neg (by omega), List.getElem?_eq_none (by simp; omega), List.getElem?_eq_none (by omega)]
    rfl
theorem fill_due {x m : Int} {n : Nat} (h0 : 0 ≤ m) (h1 : m ≤ n) : partI (List.replicate n [Int.fmod x 256]).flatten 0 m = octInts (fillU x m.toNat) := by
  rw [lm_rep_flat_one]
  unfold fillU partI
  rw [lm_rep_flat_one, rangeKs_map]
  apply List.ext_getElem?
  intro i
  have e4 : (m - 0).toNat = m.toNat := by omega
  rw [e4, oct_get]
  by_cases hi : i < m.toNat
  · have hn : i < n := by omega
    have hb : Builtin.bitAnd x 255 = Int.fmod x 256 := by rw [bitAnd_m8]; first | rfl | (rw [Int.fmod_eq_emod_of_nonneg _ (by decide)])
    have lo := fmod_lo x (n := 256) (by decide)
    have hi2 := fmod_hi x (n := 256) (by decide)
    simp [hi, hn, hb, List.getElem?_replicate]
    omega
  · simp [hi, List.getElem?_replicate]
end Mine
end
section
open PySem PySem.W PyProof.Rows
set_option Elab.async false
namespace Mine
theorem bitNot_nat (n : Nat) : Builtin.bitNot (n : Int) = -(n : Int) - 1 := by unfold Builtin.bitNot; omega
theorem bitNot_neg (n : Nat) : Builtin.bitNot (-(n : Int) - 1) = (n : Int) := by unfold Builtin.bitNot; omega
theorem bitOr_nat (a b : Nat) : Builtin.bitOr (a : Int) (b : Int) = ((a ||| b : Nat) : Int) := by
  unfold Builtin.bitOr
  rw [bitNot_nat, bitNot_nat]
  have h : Builtin.bitAnd (-(a : Int) - 1) (-(b : Int) - 1) = -((a ||| b : Nat) : Int) - 1 := by
    unfold Builtin.bitAnd
    rw [show decide ((0 : Int) ≤ -(a : Int) - 1) = false from decide_eq_false (by omega), show decide ((0 : Int) ≤ -(b : Int) - 1) = false from decide_eq_false (by omega)]
    dsimp only
    rw [bitNot_neg, bitNot_neg, Int.toNat_natCast, Int.toNat_natCast]
    first | rfl | exact bitNot_nat _
  rw [h, bitNot_neg]
theorem bitOr_add {a b i : Nat} (h : a < 2 ^ i) : Builtin.bitOr (a : Int) ((b : Int) * 2 ^ i) = (a : Int) + (b : Int) * 2 ^ i := by
  have e : ((b : Int) * 2 ^ i) = ((2 ^ i * b : Nat) : Int) := by push_cast; rw [Int.mul_comm]
  rw [e, bitOr_nat, Nat.or_comm, ← Nat.two_pow_add_eq_or_of_lt h]
  push_cast; omega
/-- the number of the octets of l, the first of which stands at place i -/
def numN : List UInt8 → Nat → Nat
  | [], _ => 0
  | b :: l, i => b.toNat * 256 ^ i + numN l (i + 1)
theorem p256 (i : Nat) : (256 : Nat) ^ i = 2 ^ (8 * i) := by rw [Nat.pow_mul]
theorem numB_from (d : List UInt8) : ∀ (i T : Nat), T < 256 ^ i → List.foldl (fun T (p : Int × Nat) => Builtin.bitOr T (p.1 * 2 ^ (8 * (p.2 : Int)).toNat)) (T : Int) ((octInts d).zipIdx i) = ((T + numN d i : Nat) : Int) := by
  induction d with
  | nil => intro i T _; simp [octInts, numN]
  | cons b d ih =>
    intro i T hT
    have hb : b.toNat < 256 := b.toNat_lt
    have e : octInts (b :: d) = (b.toNat : Int) :: octInts d := rfl
    rw [e, List.zipIdx_cons, List.foldl_cons]
    dsimp only
    have e8 : (8 * (i : Int)).toNat = 8 * i := by omega
    rw [e8, bitOr_add (by rw [← p256]; exact hT)]
    have e2 : (T : Int) + (b.toNat : Int) * 2 ^ (8 * i) = ((T + b.toNat * 256 ^ i : Nat) : Int) := by
      rw [p256]; push_cast; rfl
    have lt : T + b.toNat * 256 ^ i < 256 ^ (i + 1) := by
      rw [Nat.pow_succ]
      have : b.toNat * 256 ^ i ≤ 255 * 256 ^ i := Nat.mul_le_mul_right _ (by omega)
      omega
    rw [e2, ih (i + 1) _ lt]
    simp only [numN]
    rw [Nat.add_assoc]
theorem numB_numN (d : List UInt8) : numB d = ((numN d 0 : Nat) : Int) := by
  have := numB_from d 0 0 (by decide)
  rw [Nat.zero_add] at this
  exact this
theorem sum_numN (d : List UInt8) : ∀ i, ((List.range d.length).map fun j => ((d[j]?.map fun b => (b.toNat : Int)).getD 0) * 256 ^ (i + j)).sum = ((numN d i : Nat) : Int) := by
  induction d with
  | nil => intro i; simp [numN]
  | cons b d ih =>
    intro i
    rw [List.length_cons, List.range_succ_eq_map, List.map_cons, List.sum_cons, List.map_map]
    have e : (List.map ((fun j => ((((b :: d)[j]?).map fun b => (b.toNat : Int)).getD 0) * (256 : Int) ^ (i + j)) ∘ Nat.succ) (List.range d.length)) = (List.map (fun j => ((d[j]?.map fun b => (b.toNat : Int)).getD 0) * (256 : Int) ^ (i + 1 + j)) (List.range d.length)) := by
      apply List.map_congr_left
      intro j _
      simp only [Function.comp, List.getElem?_cons_succ]
      rw [show i + Nat.succ j = i + 1 + j by omega]
    rw [e, ih (i + 1)]
    rw [show numN (b :: d) i = b.toNat * 256 ^ i + numN d (i + 1) from rfl, Int.natCast_add, Int.natCast_mul, Int.natCast_pow, Nat.add_zero]
    rfl
theorem octets_shift (x : Int) {k m : Nat} (h : k < m) : Builtin.bitAnd ((Builtin.bitAnd x (1 * 2 ^ (8 * (m : Int)).toNat - 1)).fdiv (2 ^ (8 * (k : Int)).toNat)) 255 = Int.fmod (Int.fdiv x (256 ^ k)) 256 := by
  have e8 : (8 * (m : Int)).toNat = 8 * m := by omega
  have e9 : (8 * (k : Int)).toNat = 8 * k := by omega
  have p : (2 : Int) ^ (8 * k) = 256 ^ k := by rw [Int.pow_mul]; rfl
  rw [e8, e9, Int.one_mul, kbt_mask, bitAnd_m8, p, Int.fmod_eq_emod_of_nonneg _ (by decide)]
  have hp : (0 : Int) < 256 ^ k := Int.pow_pos (by decide)
  rw [Int.fdiv_eq_ediv_of_nonneg _ (Int.le_of_lt hp), Int.fdiv_eq_ediv_of_nonneg _ (Int.le_of_lt hp)]
  have e : (2 : Int) ^ (8 * m) = 256 ^ k * (256 * 256 ^ (m - k - 1)) := by
    rw [show 8 * m = 8 * k + (8 + 8 * (m - k - 1)) by omega, Int.pow_add, Int.pow_add, Int.pow_mul, Int.pow_mul]; rfl
  have hx := Int.emod_add_mul_ediv x (2 ^ (8 * m))
  have hx2 : x % 2 ^ (8 * m) = x + 256 ^ k * (256 * (256 ^ (m - k - 1) * -(x / 2 ^ (8 * m)))) := by
    have : (2 : Int) ^ (8 * m) * (x / 2 ^ (8 * m)) = 256 ^ k * (256 * 256 ^ (m - k - 1)) * (x / 2 ^ (8 * m)) := by rw [← e]
    rw [this] at hx
    have e3 : (256 : Int) ^ k * (256 * (256 ^ (m - k - 1) * -(x / 2 ^ (8 * m)))) = -(256 ^ k * (256 * 256 ^ (m - k - 1)) * (x / 2 ^ (8 * m))) := by
      rw [Int.mul_neg, Int.mul_neg, Int.mul_neg, Int.mul_assoc, Int.mul_assoc]
    omega
  rw [hx2, Int.add_mul_ediv_left _ _ (Int.ne_of_gt hp), Int.add_mul_emod_self_left]
end Mine
end
section
open PySem PySem.W PyProof.Rows
set_option Elab.async false
namespace Mine
theorem CallsT.mono {w : World} {n : Nat} {f : Addr} {vs : List Value} {news : List (Addr × Obj)} {P P' : Value → List (Addr × Obj) → Prop} (C : CallsT w n f vs news P) (h : ∀ r n', P r n' → P' r n') : CallsT w n f vs news P' := by
  unfold CallsT at *
  intro mean mg mb dp un cn cs a ccd cl A₀ h₀ L m s Q E B F X N T hk hd hu hret
  exact C mean mg mb dp un cn cs a ccd cl A₀ h₀ L m s Q E B F X N T hk hd hu fun r n' h' tk' p => hret r n' h' tk' (h r n' p)
theorem inL_oct {d : List UInt8} {a m : Int} : InL (octInts d) a m ↔ 0 ≤ a ∧ 0 ≤ m ∧ a + m ≤ d.length := by unfold InL; rw [octInts_length]
theorem part_all (d : List UInt8) (n : Nat) (h : n = d.length) : part d 0 n = d := by subst h; simp [part]
theorem toNat_diff {a m : Int} (h : 0 ≤ m) : (a + m - a).toNat = m.toNat := by omega
theorem part_len {d : List UInt8} {a m : Int} (h : InL (octInts d) a m) : ((part d a.toNat (a + m - a).toNat).length : Int) = m := by
  obtain ⟨h0, h1, h2⟩ := inL_oct.mp h
  rw [toNat_diff h1, part_length (by omega)]
  omega
/-- the answer of the ops that move, from the octets that are handed -/
theorem due_move {op : Int} {d o : List UInt8} {src : List Int} {to be my limit page : Int} (h4 : op ≠ 4) (h5 : op ≠ 5) (h7 : op ≠ 7) (h1 : InL src be my) (h2 : InL (octInts d) to my) (ho : partI src be my = octInts o) :
    dueI op (octInts d) src to be my limit page = (.non, octInts (paste d to.toNat o)) := by
  unfold dueI
  rw [if_neg h7, if_neg h4, if_neg h5, if_pos ⟨h1, h2⟩, moved_paste h1 h2 ho]
theorem due_trap {op : Int} {ns src : List Int} {to be my limit page : Int} (h4 : op ≠ 4) (h5 : op ≠ 5) (h7 : op ≠ 7) (h : ¬ (InL src be my ∧ InL ns to my)) :
    dueI op ns src to be my limit page = (.trap, ns) := by
  unfold dueI
  rw [if_neg h7, if_neg h4, if_neg h5, if_neg h]
theorem store_due {x : Int} {n : Nat} {m : Int} (h0 : 0 ≤ m) (h1 : m ≤ n) : partI (List.map (fun k' : Int => Int.fmod (Int.fdiv x (256 ^ Int.toNat k')) 256) (rangeKs 0 n)) 0 m = octInts (toU (octI (Builtin.bitAnd x (1 * 2 ^ (8 * m).toNat - 1)) (m - 0).toNat)) := by
  rw [oct_toU (octI_in _ _)]
  unfold partI octI
  rw [rangeKs_map, rangeKs_map, rangeKs_map]
  apply List.map_congr_left
  intro i hi
  have hi := List.mem_range.mp hi
  have hn : i < n := by omega
  have e := octets_shift x (k := i) (m := m.toNat) (by omega)
  rw [show ((m.toNat : Nat) : Int) = m by omega] at e
  rw [e, show (0 + (i : Int)).toNat = i by omega, List.getD_eq_getElem?_getD, List.getElem?_map, List.getElem?_range hn, Option.map_some, Option.getD_some, Int.toNat_natCast]
theorem sum_due {d : List UInt8} {to my : Int} (h : InL (octInts d) to my) : sumI (partI (octInts d) to my) my = numB (part d to.toNat (to + my - to).toNat) := by
  have hl := part_len h
  rw [part_oct h, numB_numN]
  generalize part d to.toNat (to + my - to).toNat = p at *
  unfold sumI
  have := sum_numN p 0
  rw [← this, rangeKs_map]
  have e : (my - 0).toNat = p.length := by omega
  rw [e]
  congr 1
  apply List.map_congr_left
  intro j _
  simp [List.getD_eq_getElem?_getD]
theorem grow_not {most : Value} {pages limit n my : Int} (hl : LimIs most pages limit) : GrowNot n my pages most ↔ (my < 0 ∨ limit < n + my) := by
  unfold GrowNot
  rcases hl with ⟨rfl, rfl⟩ | ⟨k, t, rfl, rfl⟩
  · constructor
    · rintro (h | h | ⟨_, _, h, _⟩)
      · exact .inl h
      · exact .inr h
      · cases h
    · rintro (h | h)
      · exact .inl h
      · exact .inr (.inl h)
  · constructor
    · rintro (h | h | ⟨_, _, h, h'⟩)
      · exact .inl h
      · right; split <;> omega
      · cases h; right; split <;> omega
    · rintro (h | h)
      · exact .inl h
      · right
        split at h
        · exact .inr ⟨_, _, rfl, h⟩
        · exact .inl h
theorem oct_append (a b : List UInt8) : octInts (a ++ b) = octInts a ++ octInts b := by simp [octInts]
theorem flat_zero (n : Nat) : (List.replicate n [(0 : Int)]).flatten = octInts (List.replicate n (0 : UInt8)) := by
  rw [lm_rep_flat_one]; simp [octInts]
/-- what is handed: the source's octets for the op 0, else the segment -/
def HandIs (op : Int) (hv : Value) (src sg : List Int) : Prop :=
  (op = 0 ∧ ∃ (g : List UInt8) (t : Tok), hv = .bytes g.toArray t ∧ octInts g = src) ∨ (op ≠ 0 ∧ ((hv = .none ∧ sg = []) ∨ ∃ (g : List UInt8) (t : Tok), hv = .bytes g.toArray t ∧ sg = octInts g ∧ g.length ≤ 1000000))
theorem HandIs.handed {op : Int} {hv : Value} {src sg : List Int} (h : HandIs op hv src sg) : handedIn hv = true := by
  rcases h with ⟨_, _, _, rfl, _⟩ | ⟨_, ⟨rfl, _⟩ | ⟨_, _, rfl, _⟩⟩ <;> rfl
theorem HandIs.none {op : Int} {hv : Value} {src sg : List Int} (h : HandIs op hv src sg) (n : op ≠ 0) : ∃ g : List UInt8, sg = octInts g ∧ g.length ≤ 1000000 ∧ ((hv = .none ∧ g = []) ∨ ∃ t, hv = .bytes g.toArray t) := by
  rcases h with ⟨e, _⟩ | ⟨_, ⟨rfl, rfl⟩ | ⟨g, t, rfl, rfl, hl⟩⟩
  · exact absurd e n
  · exact ⟨[], rfl, by decide, .inl ⟨rfl, rfl⟩⟩
  · exact ⟨g, rfl, hl, .inr ⟨t, rfl⟩⟩
theorem nine {op : Int} (h : 0 ≤ op ∧ op < 9) : op = 0 ∨ op = 1 ∨ op = 2 ∨ op = 3 ∨ op = 4 ∨ op = 5 ∨ op = 6 ∨ op = 7 ∨ op = 8 := by
  obtain ⟨n, rfl⟩ := Int.eq_ofNat_of_zero_le h.1
  have hn : n < 9 := Int.ofNat_lt.mp h.2
  match n, hn with
  | 0, _ => exact .inl rfl
  | 1, _ => exact .inr (.inl rfl)
  | 2, _ => exact .inr (.inr (.inl rfl))
  | 3, _ => exact .inr (.inr (.inr (.inl rfl)))
  | 4, _ => exact .inr (.inr (.inr (.inr (.inl rfl))))
  | 5, _ => exact .inr (.inr (.inr (.inr (.inr (.inl rfl)))))
  | 6, _ => exact .inr (.inr (.inr (.inr (.inr (.inr (.inl rfl))))))
  | 7, _ => exact .inr (.inr (.inr (.inr (.inr (.inr (.inr (.inl rfl)))))))
  | 8, _ => exact .inr (.inr (.inr (.inr (.inr (.inr (.inr (.inr rfl)))))))
theorem told_all (w : World) (Mw Mo : Mem) (ok : Mw.Ok) (ok' : Mo.Ok) (op to nu be my limit : Int) (t1 t2 t3 t4 t5 : Tok) (hv : Value) (src sg : List Int) (own : List (Addr × Obj)) (ho : OwnOff (Mo.led own) [Mw.b]) (hxb : @Ne Nat Mw.x Mw.b) (hdb : @Ne Nat Mw.dx Mw.b)
    (hsz : Mw.d.length ≤ 1000) (hop : 0 ≤ op ∧ op < 9) (hm : op = 0 → 0 ≤ my ∧ my ≤ 8) (hb : op ≠ 1 → op ≠ 6 → op ≠ 8 → be = 0) (hs : src = sourceI op nu my (octInts Mw.d) (octInts Mo.d) sg) (hh : HandIs op hv src sg) (hl : LimIs Mw.most Mw.pages limit) :
    CallsT w 20 247 [.int op t1, .ref Mw.x, .ref Mo.x, .int to t2, .int nu t3, hv, .int be t4, .int my t5] (Mw.led (Mo.led own))
      (fun res n' => ∃ a d', dueI op (octInts Mw.d) src to be my limit Mw.page = (a, octInts d') ∧ ToldR Mw (Mo.led own) a d' res n') := by
  have hhd := hh.handed
  rcases nine hop with e | e | e | e | e | e | e | e | e
  · subst e
    obtain ⟨m0, m1⟩ := hm rfl
    obtain rfl := hb (by decide) (by decide) (by decide)
    obtain ⟨g, t, rfl, hg⟩ : ∃ (g : List UInt8) (t : Tok), hv = .bytes g.toArray t ∧ octInts g = src := by
      rcases hh with ⟨_, z⟩ | ⟨h, _⟩
      · exact z
      · exact absurd rfl h
    have gl : (g.length : Int) = my := by
      rw [← octInts_length, hg, hs, src0 rfl, List.length_map, rangeKs_length]; omega
    have il : InL src 0 my := by rw [← hg]; exact inL_oct.mpr ⟨by decide, m0, by omega⟩
    have ip : partI src 0 my = octInts g := by
      rw [← hg, part_oct (by rw [hg]; exact il), show (Int.toNat 0) = 0 from rfl, part_all g _ (by omega)]
    refine CallsT.mono (told0_calls w Mw ok Mo.x to nu 0 my t1 t2 t3 t4 t5 t .none g (by omega) (Mo.led own) ho hxb hdb) ?_
    rintro r n' ⟨a, d', c, R⟩
    rcases c with ⟨c, rfl, rfl⟩ | ⟨c, rfl, rfl⟩
    · exact ⟨_, _, due_trap (by decide) (by decide) (by decide) (fun z => have y := inL_oct.mp z.2; c ⟨y.1, by rw [gl]; exact y.2.2⟩), R⟩
    · exact ⟨_, _, due_move (by decide) (by decide) (by decide) il (inL_oct.mpr ⟨c.1, m0, by rw [← gl]; exact c.2⟩) ip, R⟩
  · subst e
    rw [src1 rfl] at hs
    subst hs
    refine CallsT.mono (told1_calls w Mw ok Mo.x to nu be my t1 t2 t3 t4 t5 t5 hv hhd (Mo.led own) ho hxb hdb) ?_
    rintro r n' ⟨a, d', c, R⟩
    rcases c with ⟨c, rfl, rfl⟩ | ⟨c, rfl, rfl⟩
    · exact ⟨_, _, due_trap (by decide) (by decide) (by decide) (fun z => have y := inL_oct.mp z.2; have x := inL_oct.mp z.1; c ⟨x.1, x.2.1, x.2.2, y.1, y.2.2⟩), R⟩
    · have il : InL (octInts Mw.d) be my := inL_oct.mpr ⟨c.1, c.2.1, c.2.2.1⟩
      exact ⟨_, _, due_move (by decide) (by decide) (by decide) il (inL_oct.mpr ⟨c.2.2.2.1, c.2.1, c.2.2.2.2⟩) (part_oct il), R⟩
  · subst e
    obtain rfl := hb (by decide) (by decide) (by decide)
    rw [src2 rfl, octInts_length, Int.toNat_natCast] at hs
    refine CallsT.mono (told2_calls w Mw ok Mo.x to nu 0 my t1 t2 t3 t4 t5 t5 hv hhd (Mo.led own) ho hxb hdb) ?_
    rintro r n' ⟨a, d', c, R⟩
    rcases c with ⟨c, rfl, rfl⟩ | ⟨c, rfl, rfl⟩
    · exact ⟨_, _, due_trap (by decide) (by decide) (by decide) (fun z => c (inL_oct.mp z.2)), R⟩
    · refine ⟨_, _, due_move (by decide) (by decide) (by decide) (by rw [hs, lm_rep_flat_one]; exact ⟨by decide, by omega, by simp; omega⟩) (inL_oct.mpr c) ?_, R⟩
      rw [hs]; exact fill_due (by omega) (by omega)
  · subst e
    obtain rfl := hb (by decide) (by decide) (by decide)
    rw [src3 rfl, octInts_length] at hs
    have el : ((Mw.d.length : Int) - 0).toNat = Mw.d.length := by omega
    rw [el] at hs
    refine CallsT.mono (told3_calls w Mw ok Mo.x to nu 0 my t1 t2 t3 t4 t5 t5 hv hhd hsz (Mo.led own) ho hxb hdb) ?_
    rintro r n' ⟨a, d', c, R⟩
    rcases c with ⟨c, rfl, rfl⟩ | ⟨c, rfl, rfl⟩
    · exact ⟨_, _, due_trap (by decide) (by decide) (by decide) (fun z => c (inL_oct.mp z.2)), R⟩
    · refine ⟨_, _, due_move (by decide) (by decide) (by decide) (by rw [hs]; exact ⟨by decide, by omega, by rw [List.length_map, rangeKs_length]; omega⟩) (inL_oct.mpr c) ?_, R⟩
      rw [hs]; exact store_due (by omega) (by omega)
  · subst e
    refine CallsT.mono (told4_calls w Mw ok Mo.x to nu be my t1 t2 t3 t4 t5 t5 hv hhd hsz (Mo.led own) ho hxb hdb) ?_
    rintro r n' ⟨a, d', c, R⟩
    rcases c with ⟨c, rfl, rfl⟩ | ⟨c, rfl, rfl⟩
    · refine ⟨_, _, ?_, R⟩
      unfold dueI
      rw [if_neg (by decide), if_pos rfl, if_neg (fun z => c (inL_oct.mp z))]
    · refine ⟨_, _, ?_, R⟩
      have il : InL (octInts Mw.d) to my := inL_oct.mpr c
      unfold dueI
      rw [if_neg (by decide), if_pos rfl, if_pos il, sum_due il]
  · subst e
    refine CallsT.mono (told5_calls w Mw ok Mo.x to nu be my t1 t2 t3 t4 t5 t5 hv hhd (Mo.led own) ho hxb hdb) ?_
    rintro r n' ⟨a, d', c, R⟩
    rcases c with ⟨c, rfl, rfl⟩ | ⟨c, rfl, rfl⟩
    · refine ⟨_, _, ?_, R⟩
      unfold dueI
      rw [if_neg (by decide), if_neg (by decide), if_pos rfl, if_neg (fun z => c (inL_oct.mp z))]
    · refine ⟨_, _, ?_, R⟩
      have il : InL (octInts Mw.d) to my := inL_oct.mpr c
      unfold dueI
      rw [if_neg (by decide), if_neg (by decide), if_pos rfl, if_pos il, part_oct il, toU_oct]
  · subst e
    obtain ⟨g, rfl, gl, hvg⟩ := hh.none (by decide)
    rw [src6 rfl] at hs
    subst hs
    refine CallsT.mono (told6_calls w Mw ok Mo.x to nu be my t1 t2 t3 t4 t5 t5 hv g gl hvg (Mo.led own) ho hxb hdb) ?_
    rintro r n' ⟨a, d', c, R⟩
    rcases c with ⟨c, rfl, rfl⟩ | ⟨c, rfl, rfl⟩
    · exact ⟨_, _, due_trap (by decide) (by decide) (by decide) (fun z => have y := inL_oct.mp z.2; have x := inL_oct.mp z.1; c ⟨x.1, x.2.1, x.2.2, y.1, y.2.2⟩), R⟩
    · have il : InL (octInts g) be my := inL_oct.mpr ⟨c.1, c.2.1, c.2.2.1⟩
      exact ⟨_, _, due_move (by decide) (by decide) (by decide) il (inL_oct.mpr ⟨c.2.2.2.1, c.2.1, c.2.2.2.2⟩) (part_oct il), R⟩
  · subst e
    refine CallsT.mono (told7_calls w Mw ok Mo.x to nu be my t1 t2 t3 t4 t5 t5 hv hhd (Mo.led own) ho hxb hdb) ?_
    rintro r n' ⟨a, d', c, R⟩
    rcases c with ⟨c, rfl, rfl⟩ | ⟨c, rfl, rfl⟩
    · refine ⟨_, _, ?_, R⟩
      unfold dueI
      rw [if_pos rfl, octInts_length, if_pos ((grow_not hl).mp c)]
    · refine ⟨_, _, ?_, R⟩
      unfold dueI
      rw [if_pos rfl, octInts_length, if_neg (fun z => c ((grow_not hl).mpr z)), flat_zero, ← oct_append]
  · subst e
    rw [src8 rfl] at hs
    subst hs
    refine CallsT.mono (told8_calls w Mw Mo ok ok' to nu be my t1 t2 t3 t4 t5 hv hhd own ho hxb hdb) ?_
    rintro r n' ⟨a, d', c, R⟩
    rcases c with ⟨c, rfl, rfl⟩ | ⟨c, rfl, rfl⟩
    · refine ⟨_, _, due_trap (by decide) (by decide) (by decide) (fun z => c ?_), R⟩
      obtain ⟨z0, z1, z2⟩ := inL_oct.mp z.2
      obtain ⟨z3, z4, z5⟩ := inL_oct.mp z.1
      rw [part_len z.1]
      exact ⟨z3, z4, z5, z0, z2⟩
    · obtain ⟨c0, c1, c2, c3, c4⟩ := c
      have il : InL (octInts Mo.d) be my := inL_oct.mpr ⟨c0, c1, c2⟩
      rw [part_len il] at c4
      exact ⟨_, _, due_move (by decide) (by decide) (by decide) il (inL_oct.mpr ⟨c3, c1, c4⟩) (part_oct il), R⟩
end Mine
end
section
open PySem PySem.W PyProof.Rows
set_option Elab.async false
namespace Mine
/-- a number that parts the kinds of objects in the loop's ledger -/
def tagV : List Value → Nat
  | [.ref _, .ref _] => 4
  | [.ref _, .ref _, .none] => 5
  | _ => 0
def tagO (o : Obj) : Nat :=
  match o.data with
  | .plain => 6
  | .cell _ => 1
  | .fields _ => 2
  | .bytearray _ _ => 3
  | .dict _ _ => 7
  | .seq xs _ => if o.cls == .type "tuple" then 8 else tagV xs.toList
  | _ => 9
theorem ne_tag {h₀ h : Heap} {L a b : Addr} {own : List (Addr × Obj)} {o1 o2 : Obj} (N : News h₀ L h own) (h1 : (a, o1) ∈ own) (h2 : (b, o2) ∈ own) (d : tagO o1 ≠ tagO o2) : @Ne Nat a b := fun e => by
  have p := (N _ h1).1
  have q := (N _ h2).1
  dsimp only at p q
  rw [show a = b from e, q] at p
  cases p
  exact d rfl
theorem off_tag {h₀ h : Heap} {L b : Addr} {all own : List (Addr × Obj)} {ob : Obj} (N : News h₀ L h all) (hb : (b, ob) ∈ all) (hs : ∀ p ∈ own, p ∈ all) (ht : ∀ p ∈ own, tagO p.2 ≠ tagO ob) : ∀ p ∈ own, @Ne Nat p.1 b :=
  fun p hp => ne_tag N (hs p hp) hb (ht p hp)
theorem tag_list (vs : List Value) (n : Nat) : tagO (lstO vs n) = tagV vs := by
  show (if (Value.type "list" == Value.type "tuple") = true then 8 else tagV vs.toArray.toList) = _
  rw [if_neg (by decide)]
theorem tag_ints {vs : List Value} {ns : List Int} (h : IntsAre vs ns) : tagV vs = 0 := by
  cases h with
  | nil => rfl
  | cons k t h => rfl
theorem tag_tup (vs : List Value) : tagO (tupO vs) = 8 := rfl
theorem tag_ba (d : List UInt8) : tagO (baObj d) = 3 := rfl
theorem tag_inst (C dx : Addr) : tagO (instObj C dx) = 6 := rfl
theorem tag_dict (es : List DictEntry) (n : Nat) : tagO (dictOf es n) = 7 := rfl
theorem tag_fields {o : Obj} (h : ∃ d, o.data = .fields d) : tagO o = 2 := by obtain ⟨d, h⟩ := h; unfold tagO; rw [h]
theorem tag_cell {o : Obj} {v : Option Value} (h : o.data = .cell v) : tagO o = 1 := by unfold tagO; rw [h]
end Mine
end
section
open PySem PySem.W PyProof.Rows PySem.Calls PyProof.Rows.LCg
set_option Elab.async false
namespace Mine
theorem plain_Turn7 : True := by
  w_top off
  k_with_none
  trivial
set_option maxRecDepth 100000
theorem tagV_ne3 (vs : List Value) : tagV vs ≠ 3 := by unfold tagV; split <;> decide
theorem permT {M N : Mem} {a b c d e f : Addr × Obj} {l : List (Addr × Obj)} : ∀ p ∈ M.led (N.led (a :: b :: c :: d :: e :: f :: l)), p ∈ a :: b :: c :: d :: e :: f :: M.led (N.led l) :=
  List.forall_mem_cons.mpr ⟨.tail _ (.tail _ (.tail _ (.tail _ (.tail _ (.tail _ (.head _)))))), List.forall_mem_cons.mpr ⟨.tail _ (.tail _ (.tail _ (.tail _ (.tail _ (.tail _ (.tail _ (.head _))))))), List.forall_mem_cons.mpr ⟨.tail _ (.tail _ (.tail _ (.tail _ (.tail _ (.tail _ (.tail _ (.tail _ (.head _)))))))), List.forall_mem_cons.mpr ⟨.tail _ (.tail _ (.tail _ (.tail _ (.tail _ (.tail _ (.tail _ (.tail _ (.tail _ (.head _))))))))), List.forall_mem_cons.mpr ⟨.tail _ (.tail _ (.tail _ (.tail _ (.tail _ (.tail _ (.tail _ (.tail _ (.tail _ (.tail _ (.head _)))))))))), List.forall_mem_cons.mpr ⟨.tail _ (.tail _ (.tail _ (.tail _ (.tail _ (.tail _ (.tail _ (.tail _ (.tail _ (.tail _ (.tail _ (.head _))))))))))), List.forall_mem_cons.mpr ⟨.head _, List.forall_mem_cons.mpr ⟨.tail _ (.head _), List.forall_mem_cons.mpr ⟨.tail _ (.tail _ (.head _)), List.forall_mem_cons.mpr ⟨.tail _ (.tail _ (.tail _ (.head _))), List.forall_mem_cons.mpr ⟨.tail _ (.tail _ (.tail _ (.tail _ (.head _)))), List.forall_mem_cons.mpr ⟨.tail _ (.tail _ (.tail _ (.tail _ (.tail _ (.head _))))), fun _ hp => .tail _ (.tail _ (.tail _ (.tail _ (.tail _ (.tail _ (.tail _ (.tail _ (.tail _ (.tail _ (.tail _ (.tail _ (hp))))))))))))⟩⟩⟩⟩⟩⟩⟩⟩⟩⟩⟩⟩
theorem permT' {M N : Mem} {o a b c d e f : Addr × Obj} {l : List (Addr × Obj)} : ∀ p ∈ o :: a :: b :: c :: d :: e :: f :: M.led (N.led l), p ∈ o :: M.led (N.led (a :: b :: c :: d :: e :: f :: l)) :=
  List.forall_mem_cons.mpr ⟨.head _, List.forall_mem_cons.mpr ⟨.tail _ (.tail _ (.tail _ (.tail _ (.tail _ (.tail _ (.tail _ (.head _))))))), List.forall_mem_cons.mpr ⟨.tail _ (.tail _ (.tail _ (.tail _ (.tail _ (.tail _ (.tail _ (.tail _ (.head _)))))))), List.forall_mem_cons.mpr ⟨.tail _ (.tail _ (.tail _ (.tail _ (.tail _ (.tail _ (.tail _ (.tail _ (.tail _ (.head _))))))))), List.forall_mem_cons.mpr ⟨.tail _ (.tail _ (.tail _ (.tail _ (.tail _ (.tail _ (.tail _ (.tail _ (.tail _ (.tail _ (.head _)))))))))), List.forall_mem_cons.mpr ⟨.tail _ (.tail _ (.tail _ (.tail _ (.tail _ (.tail _ (.tail _ (.tail _ (.tail _ (.tail _ (.tail _ (.head _))))))))))), List.forall_mem_cons.mpr ⟨.tail _ (.tail _ (.tail _ (.tail _ (.tail _ (.tail _ (.tail _ (.tail _ (.tail _ (.tail _ (.tail _ (.tail _ (.head _)))))))))))), List.forall_mem_cons.mpr ⟨.tail _ (.head _), List.forall_mem_cons.mpr ⟨.tail _ (.tail _ (.head _)), List.forall_mem_cons.mpr ⟨.tail _ (.tail _ (.tail _ (.head _))), List.forall_mem_cons.mpr ⟨.tail _ (.tail _ (.tail _ (.tail _ (.head _)))), List.forall_mem_cons.mpr ⟨.tail _ (.tail _ (.tail _ (.tail _ (.tail _ (.head _))))), List.forall_mem_cons.mpr ⟨.tail _ (.tail _ (.tail _ (.tail _ (.tail _ (.tail _ (.head _)))))), fun _ hp => .tail _ (.tail _ (.tail _ (.tail _ (.tail _ (.tail _ (.tail _ (.tail _ (.tail _ (.tail _ (.tail _ (.tail _ (.tail _ (hp)))))))))))))⟩⟩⟩⟩⟩⟩⟩⟩⟩⟩⟩⟩⟩
theorem lines_Turn7_0 : True := by
  w_top off
  k_with_none
  k_with "mine eval Call" => (k_here; (with_reducible show wpAny _ _ (eval (Expr.Call (Expr.Name _ _) _ [] _) _) _ _ _); k_dflt (refine Call_ ?_))
  k_with "mine subscriptTail" => (k_here; (with_reducible show wpAny _ _ (subscriptTail _ _ (Value.ref _) (Value.int _ _)) _ _ _); k_dflt (refine' itemV ?N ?m ?a ?b ?_ ?s); (case N => k_asm); (case m => k_dflt k_mem); (case a => assumption); (case b => assumption); (case s => with_unfolding_all rfl); k_whole)
  k_with "mine subscriptTail" => (k_here; (with_reducible show wpAny _ _ (subscriptTail _ _ (Value.ref _) (Value.int (1 - _) _)) _ _ _); k_dflt (refine' item1mV ?N ?m ?a ?b ?_ ?s); (case N => k_asm); (case m => k_dflt k_mem); (case a => assumption); (case b => assumption); (case s => with_unfolding_all rfl); k_whole)
  k_with "mine subscriptTail Name Name ref int" => (k_here; (with_reducible show wpAny _ _ (subscriptTail _ _ (Value.ref _) (Value.int _ _)) _ _ _); k_dflt (refine' itemV ?N ?m ?a ?b ?_ ?s); (case N => k_asm); (case m => k_dflt k_mem); (case a => assumption); (case b => assumption); (case s => with_unfolding_all rfl); k_whole)
  k_with "mine subscriptTail Name Name ref int" => (k_here; (with_reducible show wpAny _ _ (subscriptTail _ _ (Value.ref _) (Value.int (1 - _) _)) _ _ _); k_dflt (refine' item1mV ?N ?m ?a ?b ?_ ?s); (case N => k_asm); (case m => k_dflt k_mem); (case a => assumption); (case b => assumption); (case s => with_unfolding_all rfl); k_whole)
  k_with "mine subscriptTail Name BinOp ref int" => (k_here; (with_reducible show wpAny _ _ (subscriptTail _ _ (Value.ref _) (Value.int _ _)) _ _ _); k_dflt (refine' itemV ?N ?m ?a ?b ?_ ?s); (case N => k_asm); (case m => k_dflt k_mem); (case a => assumption); (case b => assumption); (case s => with_unfolding_all rfl); k_whole)
  k_with "mine subscriptTail Name BinOp ref int" => (k_here; (with_reducible show wpAny _ _ (subscriptTail _ _ (Value.ref _) (Value.int (1 - _) _)) _ _ _); k_dflt (refine' item1mV ?N ?m ?a ?b ?_ ?s); (case N => k_asm); (case m => k_dflt k_mem); (case a => assumption); (case b => assumption); (case s => with_unfolding_all rfl); k_whole)
  k_with "mine wpC" => (k_here; (with_reducible show wpC _ _ (eval (Expr.Call (Expr.Name _ _) _ _ _) _) _ _ _); k_dflt (refine wpC_Call_Name ?_))
  k_with "mine wpC" => (k_here; (with_reducible show wpC _ _ (callWith _ (Value.ref _) _ _ _) _ _ _); k_dflt (refine' wpC_callWith_K ?X ?k ?_ (by with_unfolding_all rfl) (by with_unfolding_all rfl); (case X => k_asm); (case k => k_is)))
  trivial

def T7K (w : World) (h₀ : Heap) (L fa l : Addr) (cd : Value) (Q : Flow → Shared → Prop) (s : Shared) (i : Nat) (ti : Tok) (MA RA LM SG rw' D : Addr) (Mw : Mem) (src : List Int) (lim : Int) (led : Addr → Ans → Tok → Value → List UInt8 → List (Addr × Obj)) (dg nu le op wh : Int) (td tn tl to' tw : Tok) (sv : Value) (my : Int) (tm : Tok) (xo : Int) (tx : Tok) (be : Int) (tb : Tok) (hv : Value) (fm : Str → Option Value) : Prop :=
  ∀ (O : Addr) (a : Ans) (ts : Tok) (v : Value) (d' : List UInt8) (h' : Heap) (tk : Nat), dueI op (octInts Mw.d) src xo be my lim Mw.page = (a, octInts d') → a.is v →
    Fr h₀ L h' (fun y => if y = "told" then some (.ref O) else if y = "handed" then some hv else if y = "begin" then some (.int be tb) else if y = "source" then some (.ref D) else if y = "to" then some (.int xo tx) else if y = "many" then some (.int my tm) else if y = "segment" then some sv else if y = "row" then some (.ref rw') else if y = "which" then some (.int wh tw) else if y = "op" then some (.int op to') else if y = "length" then some (.int le tl) else if y = "number" then some (.int nu tn) else if y = "digit" then some (.int dg td) else if y = "k" then some (.int (i : Int) ti) else if y = "rows" then some (.ref RA) else if y = "memories" then some (.ref MA) else if y = "segments" then some (.ref SG) else if y = "limits" then some (.ref LM) else if y = "script" then some (.ref l) else fm y) → News h₀ L h' (led O a ts v d') →
    wpC (model PySem.Challenge.rw_nm0116_01.row.prog w) (callerA.deeper (lawE L fa cd)) (execs (forB.drop 14) (lawE L fa cd)) Q (fun _ _ => False) { s with heap := h', toks := tk }
set_option maxHeartbeats 1000000 in
theorem turn_7 (w : World) (mean : ExcName → Option Value) (mg mb : Str → Option Value) (h₀ : Heap) (L fa l : Addr) (cd : Value) (vs : List Value) (ns : List Int) (s : Shared) (Q : Flow → Shared → Prop) (fm : Str → Option Value) (Mw Mo : Mem) (mm rr ll : List Value) (kM kR kL : Nat) (MA RA LM SG s0 s1 rw' ro : Addr) (ww wo : List Value) (kw ko : Nat) (ss0 ss1 : List Value) (i0 i1 ng : Nat) (I : Addr) (oI oP oM : Obj) (ZA : Addr) (zz : List Value) (kz : Nat) (pg : Int) (tp : Tok) (own : List (Addr × Obj)) (i : Nat) (ti : Tok) (dg nu le op wh : Int) (td tn tl to' tw : Tok) (sv : Value) (my : Int) (tm : Tok) (xo : Int) (tx : Tok) (D : Addr) (ys : List Value) (nD : Nat) (be : Int) (tb : Tok) (hv : Value) (src sg : List Int) (lim : Int) :
    ∀ (_B : Below callerA h₀ [] h₀) (_X : (MineH.top.heap_1 w.params).In h₀) (_T : Top MineH.top.view_1 (looseW MineH.top.view_1 []) mean mg mb h₀) (_hl : h₀.IsList l vs.toArray) (_hi : IntsAre vs ns) (_hn : ns.length ≤ 63) (_ok : Mw.Ok) (_ok' : Mo.Ok) (_wh : 0 ≤ wh ∧ wh ≤ 1) (_m1 : mm[wh.toNat]? = some (.ref Mw.x)) (_m2 : mm[(1 - wh).toNat]? = some (.ref Mo.x)) (_op : 0 ≤ op ∧ op < 9) (_my : op = 0 → 0 ≤ my ∧ my ≤ 8) (_be : op ≠ 1 → op ≠ 6 → op ≠ 8 → be = 0) (_src : src = sourceI op nu my (octInts Mw.d) (octInts Mo.d) sg) (_hh : HandIs op hv src sg) (_lim : LimIs Mw.most Mw.pages lim) (_dz : Mw.d.length ≤ 1000) (_nb : @Ne Nat Mo.b Mw.b) (_oI : tagO oI = 2) (_oM : tagO oM = 1) (_oP : tagO oP = 1) (_own : ∀ p ∈ own, tagO p.2 ≠ 3)
    (_F : Fr h₀ L s.heap (fun y => if y = "handed" then some hv else if y = "begin" then some (.int be tb) else if y = "source" then some (.ref D) else if y = "to" then some (.int xo tx) else if y = "many" then some (.int my tm) else if y = "segment" then some sv else if y = "row" then some (.ref rw') else if y = "which" then some (.int wh tw) else if y = "op" then some (.int op to') else if y = "length" then some (.int le tl) else if y = "number" then some (.int nu tn) else if y = "digit" then some (.int dg td) else if y = "k" then some (.int (i : Int) ti) else if y = "rows" then some (.ref RA) else if y = "memories" then some (.ref MA) else if y = "segments" then some (.ref SG) else if y = "limits" then some (.ref LM) else if y = "script" then some (.ref l) else fm y)) (_N : News h₀ L s.heap ((D, lstO ys nD) :: ((I, oI) :: (RA, lstO rr kR) :: (rw', lstO ww kw) :: (ro, lstO wo ko) :: (MA, lstO mm kM) :: Mw.led (Mo.led ((SG, lstO [.ref s0, .ref s1, .none] ng) :: (s0, lstO ss0 i0) :: (s1, lstO ss1 i1) :: (LM, lstO ll kL) :: (ZA, lstO zz kz) :: (L + 1 + 1 + 1 + 1 + 1 + 1, oM) :: (L + 1 + 1 + 1, oP) :: own))))) (_k : T7K w h₀ L fa l cd Q s i ti MA RA LM SG rw' D Mw src lim (fun O a ts v d' => ((O, tupO [.str a.word ts, v]) :: (D, lstO ys nD) :: ((I, oI) :: (RA, lstO rr kR) :: (rw', lstO ww kw) :: (ro, lstO wo ko) :: (MA, lstO mm kM) :: (({ Mw with d := d' } : Mem)).led (Mo.led ((SG, lstO [.ref s0, .ref s1, .none] ng) :: (s0, lstO ss0 i0) :: (s1, lstO ss1 i1) :: (LM, lstO ll kL) :: (ZA, lstO zz kz) :: (L + 1 + 1 + 1 + 1 + 1 + 1, oM) :: (L + 1 + 1 + 1, oP) :: own))))) dg nu le op wh td tn tl to' tw sv my tm xo tx be tb hv fm),
    wpC (model PySem.Challenge.rw_nm0116_01.row.prog w) (callerA.deeper (lawE L fa cd)) (execs (forB.drop 13) (lawE L fa cd)) Q (fun _ _ => False) s := by
  k_fill
  intro B X T hl hi hn ok ok' hwh m1 m2 hop hmy hbe hsrc hh hlim hdz hnb hoI hoM hoP hown F N k
  unfold T7K at k
  dsimp only at k
  have hhd := hh.handed
  have mb : (Mw.b, baObj Mw.d) ∈ ((D, lstO ys nD) :: ((I, oI) :: (RA, lstO rr kR) :: (rw', lstO ww kw) :: (ro, lstO wo ko) :: (MA, lstO mm kM) :: Mw.led (Mo.led ((SG, lstO [.ref s0, .ref s1, .none] ng) :: (s0, lstO ss0 i0) :: (s1, lstO ss1 i1) :: (LM, lstO ll kL) :: (ZA, lstO zz kz) :: (L + 1 + 1 + 1 + 1 + 1 + 1, oM) :: (L + 1 + 1 + 1, oP) :: own)))) := by simp only [List.mem_cons, true_or, or_true]
  have nx : @Ne Nat Mw.x Mw.b := ne_tag N (by simp only [List.mem_cons, true_or, or_true]) mb (o1 := instObj 185 Mw.dx) (by rw [tag_inst, tag_ba]; decide)
  have nd : @Ne Nat Mw.dx Mw.b := ne_tag N (by simp only [List.mem_cons, true_or, or_true]) mb (o1 := memD Mw.H1 Mw.H2 Mw.H3 Mw.H4 Mw.k1 Mw.k2 Mw.k3 Mw.k4 Mw.most Mw.page Mw.pages Mw.tp Mw.tq Mw.b) (by rw [tag_dict, tag_ba]; decide)
  have ho : OwnOff (Mo.led ((D, lstO ys nD) :: (I, oI) :: (RA, lstO rr kR) :: (rw', lstO ww kw) :: (ro, lstO wo ko) :: (MA, lstO mm kM) :: ((SG, lstO [.ref s0, .ref s1, .none] ng) :: (s0, lstO ss0 i0) :: (s1, lstO ss1 i1) :: (LM, lstO ll kL) :: (ZA, lstO zz kz) :: (L + 1 + 1 + 1 + 1 + 1 + 1, oM) :: (L + 1 + 1 + 1, oP) :: own))) [Mw.b] := by
    intro p hp b' hb'
    rw [List.mem_singleton.mp hb']
    rcases List.mem_cons.mp hp with e | hp
    · rw [e]; exact ne_tag N (by simp only [List.mem_cons, true_or, or_true]) mb (o1 := instObj 185 Mo.dx) (by rw [tag_inst, tag_ba]; decide)
    rcases List.mem_cons.mp hp with e | hp
    · rw [e]; exact ne_tag N (by simp only [List.mem_cons, true_or, or_true]) mb (o1 := memD Mo.H1 Mo.H2 Mo.H3 Mo.H4 Mo.k1 Mo.k2 Mo.k3 Mo.k4 Mo.most Mo.page Mo.pages Mo.tp Mo.tq Mo.b) (by rw [tag_dict, tag_ba]; decide)
    rcases List.mem_cons.mp hp with e | hp
    · rw [e]; exact hnb
    refine ne_tag N (o1 := p.2) (permT p (.tail _ (.tail _ (.tail _ (.tail _ (.tail _ (.tail _ hp))))))) mb ?_
    rw [tag_ba]
    simp only [List.mem_cons] at hp
    rcases hp with h | h | h | h | h | h | h | h | h | h | h | h | h | h
    all_goals first
      | exact hown p h
      | (rw [h]; first | (rw [hoI]; decide) | (rw [hoM]; decide) | (rw [hoP]; decide) | (rw [tag_list]; exact tagV_ne3 _))
  unfold lawE at *
  conv =>
    enter [3, 1]
    whnf
  generalize hS : lawS = sc at *
  conv at hS =>
    lhs
    whnf
  subst hS
  generalize hB : forB = fb at *
  conv at hB =>
    lhs
    whnf
  subst hB
  refine wpC_execs_cons (wpC_Assign_Name ?_ ?_)
  k_steps
  refine' CallsT.use (told_all w Mw Mo ok ok' op xo nu be my lim _ _ _ _ _ hv src sg ((D, lstO ys nD) :: (I, oI) :: (RA, lstO rr kR) :: (rw', lstO ww kw) :: (ro, lstO wo ko) :: (MA, lstO mm kM) :: ((SG, lstO [.ref s0, .ref s1, .none] ng) :: (s0, lstO ss0 i0) :: (s1, lstO ss1 i1) :: (LM, lstO ll kL) :: (ZA, lstO zz kz) :: (L + 1 + 1 + 1 + 1 + 1 + 1, oM) :: (L + 1 + 1 + 1, oP) :: own)) ho nx nd hdz hop hmy hbe hsrc hh hlim) ?B ?F ?X ?N ?T ?k ?d ?u ?_
  case B => k_asm
  case F => k_asm
  case X => k_asm
  case N => exact News.perm (by k_asm) permT
  case T => k_asm
  case k => k_dflt (exact rfl)
  case d => ktr_room
  case u => first | decide | ktr_units
  k_whole
  intro r n' h' tk' hP F' N'
  obtain ⟨a, d', hdue, O, ts, v, hr, hav, hn⟩ := hP
  subst hr
  subst hn
  replace N' := News.perm N' permT'
  k_steps
  exact k _ _ _ _ _ _ _ hdue hav (by assumption) (by assumption)
end Mine
end
section
open PySem PySem.W PyProof.Rows
set_option Elab.async false
namespace Mine
theorem octL_oct (d : List UInt8) : OctL (octInts d) := octInts_oct d
theorem octL_nil : OctL [] := fun _ h => by cases h
theorem source_oct {op nu my : Int} {ns ms sg : List Int} (h1 : OctL ns) (h2 : OctL ms) (h3 : OctL sg) : OctL (sourceI op nu my ns ms sg) := by
  by_cases c0 : op = 0
  · rw [src0 c0]; exact octL_fm
  by_cases c1 : op = 1
  · rw [src1 c1]; exact h1
  by_cases c2 : op = 2
  · rw [src2 c2]
    intro n hn
    obtain ⟨l, hl, hn⟩ := List.mem_flatten.mp hn
    rw [(List.mem_replicate.mp hl).2] at hn
    rw [List.mem_singleton.mp hn]
    exact ⟨fmod_lo nu (n := 256) (by decide), fmod_hi nu (n := 256) (by decide)⟩
  by_cases c3 : op = 3
  · rw [src3 c3]; exact octL_fm
  by_cases c6 : op = 6
  · rw [src6 c6]; exact h3
  by_cases c8 : op = 8
  · rw [src8 c8]; exact h2
  · rw [src9 c0 c1 c2 c3 c6 c8]; exact octL_nil
theorem source_len {op nu my : Int} {ns ms sg : List Int} (h0 : op = 0 → 0 ≤ my ∧ my ≤ 8) (h1 : ns.length ≤ 1000) (h2 : ms.length ≤ 1000) (h3 : sg.length ≤ 1000) : (sourceI op nu my ns ms sg).length ≤ 1000 := by
  by_cases c0 : op = 0
  · rw [src0 c0, List.length_map, rangeKs_length]
    have := h0 c0
    omega
  by_cases c1 : op = 1
  · rw [src1 c1]; exact h1
  by_cases c2 : op = 2
  · rw [src2 c2, Int.toNat_natCast, lm_rep_flat_one, List.length_replicate]; exact h1
  by_cases c3 : op = 3
  · rw [src3 c3, List.length_map, rangeKs_length]; omega
  by_cases c6 : op = 6
  · rw [src6 c6]; exact h3
  by_cases c8 : op = 8
  · rw [src8 c8]; exact h2
  · rw [src9 c0 c1 c2 c3 c6 c8]; exact Nat.zero_le _
theorem due_len {op to be my limit page : Int} {ns src : List Int} (hp : 3 ≤ page ∧ page ≤ 8) (hl : limit ≤ 5) (h : ns.length ≤ 48) : (dueI op ns src to be my limit page).2.length ≤ 48 := by
  unfold dueI
  split
  · split
    · exact h
    · rename_i c
      have c1 : ¬ my < 0 := fun z => c (.inl z)
      have c2 : ¬ limit < Int.fdiv ns.length page + my := fun z => c (.inr z)
      rw [List.length_append, lm_rep_flat_one, List.length_replicate]
      have e := Int.mul_fdiv_add_fmod (ns.length : Int) page
      have f := fmod_hi (ns.length : Int) (n := page) (by omega)
      have g : my * page + page * Int.fdiv ns.length page ≤ 40 := by
        calc my * page + page * Int.fdiv ns.length page = (Int.fdiv ns.length page + my) * page := by rw [Int.add_mul, Int.mul_comm page]; omega
          _ ≤ 5 * page := Int.mul_le_mul_of_nonneg_right (by omega) (by omega)
          _ ≤ 40 := by omega
      omega
  · split
    · split <;> exact h
    · split
      · split <;> exact h
      · split
        · show (movedI _ _ _ _ _).length ≤ 48
          unfold movedI
          rw [List.length_map, rangeKs_length]
          omega
        · exact h
end Mine
end
section
open PySem PySem.W PyProof.Rows PySem.Calls PyProof.Rows.LCg
set_option Elab.async false
namespace Mine
theorem plain_Turn8 : True := by
  w_top off
  k_with_none
  trivial
set_option maxRecDepth 100000
theorem lines_Turn8_0 : True := by
  w_top off
  k_with_none
  k_with "mine eval Call" => (k_here; (with_reducible show wpAny _ _ (eval (Expr.Call (Expr.Name _ _) _ [] _) _) _ _ _); k_dflt (refine Call_ ?_))
  k_with "mine subscriptTail" => (k_here; (with_reducible show wpAny _ _ (subscriptTail _ _ (Value.ref _) (Value.int _ _)) _ _ _); k_dflt (refine' itemV ?N ?m ?a ?b ?_ ?s); (case N => k_asm); (case m => k_dflt k_mem); (case a => assumption); (case b => assumption); (case s => with_unfolding_all rfl); k_whole)
  k_with "mine subscriptTail" => (k_here; (with_reducible show wpAny _ _ (subscriptTail _ _ (Value.ref _) (Value.int (1 - _) _)) _ _ _); k_dflt (refine' item1mV ?N ?m ?a ?b ?_ ?s); (case N => k_asm); (case m => k_dflt k_mem); (case a => assumption); (case b => assumption); (case s => with_unfolding_all rfl); k_whole)
  k_with "mine subscriptTail Name Name ref int" => (k_here; (with_reducible show wpAny _ _ (subscriptTail _ _ (Value.ref _) (Value.int _ _)) _ _ _); k_dflt (refine' itemV ?N ?m ?a ?b ?_ ?s); (case N => k_asm); (case m => k_dflt k_mem); (case a => assumption); (case b => assumption); (case s => with_unfolding_all rfl); k_whole)
  k_with "mine subscriptTail Name Name ref int" => (k_here; (with_reducible show wpAny _ _ (subscriptTail _ _ (Value.ref _) (Value.int (1 - _) _)) _ _ _); k_dflt (refine' item1mV ?N ?m ?a ?b ?_ ?s); (case N => k_asm); (case m => k_dflt k_mem); (case a => assumption); (case b => assumption); (case s => with_unfolding_all rfl); k_whole)
  k_with "mine subscriptTail Name BinOp ref int" => (k_here; (with_reducible show wpAny _ _ (subscriptTail _ _ (Value.ref _) (Value.int _ _)) _ _ _); k_dflt (refine' itemV ?N ?m ?a ?b ?_ ?s); (case N => k_asm); (case m => k_dflt k_mem); (case a => assumption); (case b => assumption); (case s => with_unfolding_all rfl); k_whole)
  k_with "mine subscriptTail Name BinOp ref int" => (k_here; (with_reducible show wpAny _ _ (subscriptTail _ _ (Value.ref _) (Value.int (1 - _) _)) _ _ _); k_dflt (refine' item1mV ?N ?m ?a ?b ?_ ?s); (case N => k_asm); (case m => k_dflt k_mem); (case a => assumption); (case b => assumption); (case s => with_unfolding_all rfl); k_whole)
  trivial

def T8K (w : World) (h₀ : Heap) (L fa l : Addr) (cd : Value) (Q : Flow → Shared → Prop) (s : Shared) (i : Nat) (ti : Tok) (MA RA LM SG rw' D : Addr) (due : Ans × List Int) (led : List (Addr × Obj)) (dg nu le op wh : Int) (td tn tl to' tw : Tok) (sv : Value) (my : Int) (tm : Tok) (xo : Int) (tx : Tok) (be : Int) (tb : Tok) (hv : Value) (O : Addr) (fm : Str → Option Value) : Prop :=
  ∀ (I' D' : Addr) (ts' : Tok) (v' : Value) (ys' : List Value) (n' : Nat) (h' : Heap) (tk : Nat), IntsAre ys' due.2 → due.1.is v' →
    Fr h₀ L h' (fun y => if y = "after" then some (.ref D') else if y = "due" then some (.ref I') else if y = "told" then some (.ref O) else if y = "handed" then some hv else if y = "begin" then some (.int be tb) else if y = "source" then some (.ref D) else if y = "to" then some (.int xo tx) else if y = "many" then some (.int my tm) else if y = "segment" then some sv else if y = "row" then some (.ref rw') else if y = "which" then some (.int wh tw) else if y = "op" then some (.int op to') else if y = "length" then some (.int le tl) else if y = "number" then some (.int nu tn) else if y = "digit" then some (.int dg td) else if y = "k" then some (.int (i : Int) ti) else if y = "rows" then some (.ref RA) else if y = "memories" then some (.ref MA) else if y = "segments" then some (.ref SG) else if y = "limits" then some (.ref LM) else if y = "script" then some (.ref l) else fm y) → News h₀ L h' ((I', tupO [.str due.1.word ts', v']) :: (D', lstO ys' n') :: led) →
    wpC (model PySem.Challenge.rw_nm0116_01.row.prog w) (callerA.deeper (lawE L fa cd)) (execs (forB.drop 15) (lawE L fa cd)) Q (fun _ _ => False) { s with heap := h', toks := tk }
set_option maxHeartbeats 1000000 in
theorem turn_8 (w : World) (mean : ExcName → Option Value) (mg mb : Str → Option Value) (h₀ : Heap) (L fa l : Addr) (cd : Value) (vs : List Value) (ns : List Int) (s : Shared) (Q : Flow → Shared → Prop) (fm : Str → Option Value) (Mw Mo : Mem) (mm rr ll : List Value) (kM kR kL : Nat) (MA RA LM SG s0 s1 rw' ro : Addr) (ww wo : List Value) (kw ko : Nat) (ss0 ss1 : List Value) (i0 i1 ng : Nat) (I : Addr) (oI oP oM : Obj) (ZA : Addr) (zz : List Value) (kz : Nat) (pg : Int) (tp : Tok) (own : List (Addr × Obj)) (i : Nat) (ti : Tok) (dg nu le op wh : Int) (td tn tl to' tw : Tok) (sv : Value) (my : Int) (tm : Tok) (xo : Int) (tx : Tok) (D : Addr) (ys : List Value) (nD : Nat) (be : Int) (tb : Tok) (hv : Value) (O : Addr) (a : Ans) (ts : Tok) (v : Value) (dd : List UInt8) (src : List Int) (lim : Int) (ul : Tok) :
    ∀ (_B : Below callerA h₀ [] h₀) (_X : (MineH.top.heap_1 w.params).In h₀) (_T : Top MineH.top.view_1 (looseW MineH.top.view_1 []) mean mg mb h₀) (_hl : h₀.IsList l vs.toArray) (_hi : IntsAre vs ns) (_hn : ns.length ≤ 63) (_wh : 0 ≤ wh ∧ wh ≤ 1) (_l : ll[wh.toNat]? = some (.int lim ul)) (_iw : IntsAre ww (octInts dd)) (_iy : IntsAre ys src) (_zd : (octInts dd).length ≤ 1000) (_zs : src.length ≤ 1000) (_p0 : 0 < pg) (_p1 : pg < 1000) (_lm : lim ≤ 1000) (_dP : oP.data = .cell (some (.int pg tp)))
    (_F : Fr h₀ L s.heap (fun y => if y = "told" then some (.ref O) else if y = "handed" then some hv else if y = "begin" then some (.int be tb) else if y = "source" then some (.ref D) else if y = "to" then some (.int xo tx) else if y = "many" then some (.int my tm) else if y = "segment" then some sv else if y = "row" then some (.ref rw') else if y = "which" then some (.int wh tw) else if y = "op" then some (.int op to') else if y = "length" then some (.int le tl) else if y = "number" then some (.int nu tn) else if y = "digit" then some (.int dg td) else if y = "k" then some (.int (i : Int) ti) else if y = "rows" then some (.ref RA) else if y = "memories" then some (.ref MA) else if y = "segments" then some (.ref SG) else if y = "limits" then some (.ref LM) else if y = "script" then some (.ref l) else fm y)) (_N : News h₀ L s.heap ((O, tupO [.str a.word ts, v]) :: (D, lstO ys nD) :: ((I, oI) :: (RA, lstO rr kR) :: (rw', lstO ww kw) :: (ro, lstO wo ko) :: (MA, lstO mm kM) :: Mw.led (Mo.led ((SG, lstO [.ref s0, .ref s1, .none] ng) :: (s0, lstO ss0 i0) :: (s1, lstO ss1 i1) :: (LM, lstO ll kL) :: (ZA, lstO zz kz) :: (L + 1 + 1 + 1 + 1 + 1 + 1, oM) :: (L + 1 + 1 + 1, oP) :: own))))) (_k : T8K w h₀ L fa l cd Q s i ti MA RA LM SG rw' D (dueI op (octInts dd) src xo be my lim pg) ((O, tupO [.str a.word ts, v]) :: (D, lstO ys nD) :: ((I, oI) :: (RA, lstO rr kR) :: (rw', lstO ww kw) :: (ro, lstO wo ko) :: (MA, lstO mm kM) :: Mw.led (Mo.led ((SG, lstO [.ref s0, .ref s1, .none] ng) :: (s0, lstO ss0 i0) :: (s1, lstO ss1 i1) :: (LM, lstO ll kL) :: (ZA, lstO zz kz) :: (L + 1 + 1 + 1 + 1 + 1 + 1, oM) :: (L + 1 + 1 + 1, oP) :: own)))) dg nu le op wh td tn tl to' tw sv my tm xo tx be tb hv O fm),
    wpC (model PySem.Challenge.rw_nm0116_01.row.prog w) (callerA.deeper (lawE L fa cd)) (execs (forB.drop 14) (lawE L fa cd)) Q (fun _ _ => False) s := by
  k_fill
  intro B X T hl hi hn hwh hll hiw hiy hzd hzs p0 p1 hlm dP F N k
  unfold T8K at k
  unfold lawE at *
  conv =>
    enter [3, 1]
    whnf
  generalize hS : lawS = sc at *
  conv at hS =>
    lhs
    whnf
  subst hS
  generalize hB : forB = fb at *
  conv at hB =>
    lhs
    whnf
  subst hB
  refine wpC_execs_consA ?_
  iterate 25 walk1
  refine' Calls.use (due_calls w rw' D ww ys (octInts dd) src kw nD op xo be my lim pg _ _ _ _ _ _ hiw hiy hzd hzs (octL_oct dd) p0 p1 hlm _) ?B ?F ?X ?N ?T ?k ?d ?u ?_ ?x
  case B => k_asm
  case F => k_asm
  case X => k_asm
  case N => exact news_dup2 (by k_asm) (by k_dflt k_mem) (by k_dflt k_mem)
  case T => k_asm
  case k => k_dflt (exact rfl)
  case d => ktr_room
  case u => first | decide | ktr_units
  case x => exact fun _ _ _ _ _ _ _ _ _ hx _ _ => hx.elim
  k_whole
  intro r n' h' tk' hP F' N'
  obtain ⟨O', I', D', ys', n2, ts', v', hr, hi', ha, hn⟩ := hP
  subst hr
  subst hn
  k_steps
  exact k _ _ _ _ _ _ _ _ hi' ha (by assumption) (News.perm (by assumption) fun p hp => .tail _ hp)
end Mine
end
section
open PySem PySem.W PyProof.Rows PySem.Calls PyProof.Rows.LCg
set_option Elab.async false
namespace Mine
theorem plain_Turn9 : True := by
  w_top off
  k_with_none
  trivial
set_option maxRecDepth 100000
theorem set_rowK {prog : Program} {w : World} {A : Around} {E : Value → Shared → Prop} {s : Shared} {h₀ : Heap} {L D : Addr} {m : Str → Option Value} {pre post : List (Addr × Obj)} {vs : List Value} {n : Nat} {k : Int} {t : Tok} {x : Value} {Q : Unit → Shared → Prop} (F : Fr h₀ L s.heap m) (N : News h₀ L s.heap (pre ++ (D, lstO vs n) :: post)) (a : ∀ p ∈ pre, @Ne Nat p.1 D) (b : ∀ p ∈ post, @Ne Nat p.1 D) (hb : 0 ≤ k ∧ k ≤ 1) (hl : vs.length = 2)
    (h : ∀ h', Fr h₀ L h' m → News h₀ L h' (pre ++ (D, lstO (vs.set k.toNat x) n) :: post) → Q () { s with heap := h' }) :
    wpAny (model prog w) A (setItem (.ref D) (.int k t) x) Q E s := by
  have z := N (D, lstO vs n) (List.mem_append.mpr (.inr (.head _)))
  have hs : vs.toArray.size = 2 := by rw [List.size_toArray]; exact hl
  refine ki_setAt z.1 hb.1 (Int.lt_of_le_of_lt hb.2 (by decide)) (by rw [hs]; omega) (h _ (F.change (Heap.SameBut.update ..) z.2.1 z.2.2) (ki_turn _ N a b ?_ ?_))
  · show vs.toArray.setIfInBounds k.toNat x = (vs.set k.toNat x).toArray
    apply Array.toList_inj.mp
    simp
  · simp
theorem off_entry {R : Nat} {p e : Addr × Obj} (h : p = e) (o : @Ne Nat e.1 R) : @Ne Nat p.1 R := by rw [h]; exact o
theorem lines_Turn9_0 : True := by
  w_top off
  k_with_none
  k_with "mine eval Call" => (k_here; (with_reducible show wpAny _ _ (eval (Expr.Call (Expr.Name _ _) _ [] _) _) _ _ _); k_dflt (refine Call_ ?_))
  trivial

def T9K (w : World) (h₀ : Heap) (L fa l : Addr) (cd : Value) (Q : Flow → Shared → Prop) (s : Shared) (i : Nat) (ti : Tok) (MA RA LM SG rw' D : Addr) (led : List (Addr × Obj)) (dg nu le op wh : Int) (td tn tl to' tw : Tok) (sv : Value) (my : Int) (tm : Tok) (xo : Int) (tx : Tok) (be : Int) (tb : Tok) (hv : Value) (O I' D' : Addr) (fm : Str → Option Value) : Prop :=
  ∀ (h' : Heap) (tk : Nat), Fr h₀ L h' (fun y => if y = "after" then some (.ref D') else if y = "due" then some (.ref I') else if y = "told" then some (.ref O) else if y = "handed" then some hv else if y = "begin" then some (.int be tb) else if y = "source" then some (.ref D) else if y = "to" then some (.int xo tx) else if y = "many" then some (.int my tm) else if y = "segment" then some sv else if y = "row" then some (.ref rw') else if y = "which" then some (.int wh tw) else if y = "op" then some (.int op to') else if y = "length" then some (.int le tl) else if y = "number" then some (.int nu tn) else if y = "digit" then some (.int dg td) else if y = "k" then some (.int (i : Int) ti) else if y = "rows" then some (.ref RA) else if y = "memories" then some (.ref MA) else if y = "segments" then some (.ref SG) else if y = "limits" then some (.ref LM) else if y = "script" then some (.ref l) else fm y) → News h₀ L h' led →
    wpC (model PySem.Challenge.rw_nm0116_01.row.prog w) (callerA.deeper (lawE L fa cd)) (execs (forB.drop 16) (lawE L fa cd)) Q (fun _ _ => False) { s with heap := h', toks := tk }
set_option maxHeartbeats 1000000 in
theorem turn_9 (w : World) (mean : ExcName → Option Value) (mg mb : Str → Option Value) (h₀ : Heap) (L fa l : Addr) (cd : Value) (vs : List Value) (ns : List Int) (s : Shared) (Q : Flow → Shared → Prop) (fm : Str → Option Value) (Mw Mo : Mem) (mm rr ll : List Value) (kM kR kL : Nat) (MA RA LM SG s0 s1 rw' ro : Addr) (ww wo : List Value) (kw ko : Nat) (ss0 ss1 : List Value) (i0 i1 ng : Nat) (I : Addr) (oI oP oM : Obj) (ZA : Addr) (zz : List Value) (kz : Nat) (pg : Int) (tp : Tok) (own : List (Addr × Obj)) (i : Nat) (ti : Tok) (dg nu le op wh : Int) (td tn tl to' tw : Tok) (sv : Value) (my : Int) (tm : Tok) (xo : Int) (tx : Tok) (D : Addr) (ys : List Value) (nD : Nat) (be : Int) (tb : Tok) (hv : Value) (O : Addr) (a : Ans) (ts : Tok) (v : Value) (DW : Str) (I' D' : Addr) (ts' : Tok) (v' : Value) (ys' : List Value) (n' : Nat) (dd : List UInt8) (src src' : List Int) :
    ∀ (_B : Below callerA h₀ [] h₀) (_X : (MineH.top.heap_1 w.params).In h₀) (_T : Top MineH.top.view_1 (looseW MineH.top.view_1 []) mean mg mb h₀) (_hl : h₀.IsList l vs.toArray) (_hi : IntsAre vs ns) (_hn : ns.length ≤ 63) (_wh : 0 ≤ wh ∧ wh ≤ 1) (_rr : rr.length = 2) (_tr : tagV rr = 4) (_ma : @Ne Nat MA RA) (_iw : IntsAre ww (octInts dd)) (_io : IntsAre wo (octInts Mo.d)) (_iy : IntsAre ys src) (_iy2 : IntsAre ys' src') (_t0 : tagV ss0 = 0) (_t1 : tagV ss1 = 0) (_tl : tagV ll = 0) (_tz : tagV zz = 0) (_oI : tagO oI = 2) (_oM : tagO oM = 1) (_oP : tagO oP = 1) (_own : ∀ p ∈ own, tagO p.2 ≠ 4)
    (_F : Fr h₀ L s.heap (fun y => if y = "after" then some (.ref D') else if y = "due" then some (.ref I') else if y = "told" then some (.ref O) else if y = "handed" then some hv else if y = "begin" then some (.int be tb) else if y = "source" then some (.ref D) else if y = "to" then some (.int xo tx) else if y = "many" then some (.int my tm) else if y = "segment" then some sv else if y = "row" then some (.ref rw') else if y = "which" then some (.int wh tw) else if y = "op" then some (.int op to') else if y = "length" then some (.int le tl) else if y = "number" then some (.int nu tn) else if y = "digit" then some (.int dg td) else if y = "k" then some (.int (i : Int) ti) else if y = "rows" then some (.ref RA) else if y = "memories" then some (.ref MA) else if y = "segments" then some (.ref SG) else if y = "limits" then some (.ref LM) else if y = "script" then some (.ref l) else fm y)) (_N : News h₀ L s.heap ((I', tupO [.str DW ts', v']) :: (D', lstO ys' n') :: ((O, tupO [.str a.word ts, v]) :: (D, lstO ys nD) :: ((I, oI) :: (RA, lstO rr kR) :: (rw', lstO ww kw) :: (ro, lstO wo ko) :: (MA, lstO mm kM) :: Mw.led (Mo.led ((SG, lstO [.ref s0, .ref s1, .none] ng) :: (s0, lstO ss0 i0) :: (s1, lstO ss1 i1) :: (LM, lstO ll kL) :: (ZA, lstO zz kz) :: (L + 1 + 1 + 1 + 1 + 1 + 1, oM) :: (L + 1 + 1 + 1, oP) :: own)))))) (_k : T9K w h₀ L fa l cd Q s i ti MA RA LM SG rw' D ((I', tupO [.str DW ts', v']) :: (D', lstO ys' n') :: ((O, tupO [.str a.word ts, v]) :: (D, lstO ys nD) :: ((I, oI) :: (RA, lstO (rr.set wh.toNat (.ref D')) kR) :: (rw', lstO ww kw) :: (ro, lstO wo ko) :: (MA, lstO mm kM) :: Mw.led (Mo.led ((SG, lstO [.ref s0, .ref s1, .none] ng) :: (s0, lstO ss0 i0) :: (s1, lstO ss1 i1) :: (LM, lstO ll kL) :: (ZA, lstO zz kz) :: (L + 1 + 1 + 1 + 1 + 1 + 1, oM) :: (L + 1 + 1 + 1, oP) :: own))))) dg nu le op wh td tn tl to' tw sv my tm xo tx be tb hv O I' D' fm),
    wpC (model PySem.Challenge.rw_nm0116_01.row.prog w) (callerA.deeper (lawE L fa cd)) (execs (forB.drop 15) (lawE L fa cd)) Q (fun _ _ => False) s := by
  k_fill
  intro B X T hl hi hn hwh hrr htr hma hiw hio hiy hiy2 ht0 ht1 htl htz hoI hoM hoP hown F N k
  unfold T9K at k
  have mR : (RA, lstO rr kR) ∈ ((I', tupO [.str DW ts', v']) :: (D', lstO ys' n') :: ((O, tupO [.str a.word ts, v]) :: (D, lstO ys nD) :: ((I, oI) :: (RA, lstO rr kR) :: (rw', lstO ww kw) :: (ro, lstO wo ko) :: (MA, lstO mm kM) :: Mw.led (Mo.led ((SG, lstO [.ref s0, .ref s1, .none] ng) :: (s0, lstO ss0 i0) :: (s1, lstO ss1 i1) :: (LM, lstO ll kL) :: (ZA, lstO zz kz) :: (L + 1 + 1 + 1 + 1 + 1 + 1, oM) :: (L + 1 + 1 + 1, oP) :: own))))) := by simp only [List.mem_cons, true_or, or_true]
  have off : ∀ p ∈ ((I', tupO [.str DW ts', v']) :: (D', lstO ys' n') :: ((O, tupO [.str a.word ts, v]) :: (D, lstO ys nD) :: ((I, oI) :: (RA, lstO rr kR) :: (rw', lstO ww kw) :: (ro, lstO wo ko) :: (MA, lstO mm kM) :: Mw.led (Mo.led ((SG, lstO [.ref s0, .ref s1, .none] ng) :: (s0, lstO ss0 i0) :: (s1, lstO ss1 i1) :: (LM, lstO ll kL) :: (ZA, lstO zz kz) :: (L + 1 + 1 + 1 + 1 + 1 + 1, oM) :: (L + 1 + 1 + 1, oP) :: own))))), tagO p.2 ≠ 4 → @Ne Nat p.1 RA := fun p hp ht => ne_tag N (o1 := p.2) hp mR (by rw [tag_list, htr]; exact ht)
  unfold lawE at *
  conv =>
    enter [3, 1]
    whnf
  generalize hS : lawS = sc at *
  conv at hS =>
    lhs
    whnf
  subst hS
  generalize hB : forB = fb at *
  conv at hB =>
    lhs
    whnf
  subst hB
  refine wpC_execs_consA ?_
  k_steps
  refine set_rowK (pre := [(I', tupO [.str DW ts', v']), (D', lstO ys' n'), (O, tupO [.str a.word ts, v]), (D, lstO ys nD), (I, oI)]) (by assumption) N ?a ?b hwh hrr ?_
  case a =>
    intro p hp
    simp only [List.mem_cons, List.not_mem_nil, or_false] at hp
    rcases hp with h | h | h | h | h
    · exact off p (by rw [h]; simp only [List.mem_cons, true_or, or_true]) (by rw [h]; exact fun z => by cases z)
    · exact off p (by rw [h]; simp only [List.mem_cons, true_or, or_true]) (by rw [h, tag_list, tag_ints hiy2]; decide)
    · exact off p (by rw [h]; simp only [List.mem_cons, true_or, or_true]) (by rw [h]; exact fun z => by cases z)
    · exact off p (by rw [h]; simp only [List.mem_cons, true_or, or_true]) (by rw [h, tag_list, tag_ints hiy]; decide)
    · exact off p (by rw [h]; simp only [List.mem_cons, true_or, or_true]) (by rw [h, hoI]; decide)
  case b =>
    intro p hp
    have hp2 : p ∈ ((I', tupO [.str DW ts', v']) :: (D', lstO ys' n') :: ((O, tupO [.str a.word ts, v]) :: (D, lstO ys nD) :: ((I, oI) :: (RA, lstO rr kR) :: (rw', lstO ww kw) :: (ro, lstO wo ko) :: (MA, lstO mm kM) :: Mw.led (Mo.led ((SG, lstO [.ref s0, .ref s1, .none] ng) :: (s0, lstO ss0 i0) :: (s1, lstO ss1 i1) :: (LM, lstO ll kL) :: (ZA, lstO zz kz) :: (L + 1 + 1 + 1 + 1 + 1 + 1, oM) :: (L + 1 + 1 + 1, oP) :: own))))) := .tail _ (.tail _ (.tail _ (.tail _ (.tail _ (.tail _ hp)))))
    simp only [List.mem_cons] at hp
    rcases hp with h | h | h | h | h | h | h | h | h | h | h | h | h | h | h | h | h
    · exact off p hp2 (by rw [h, tag_list, tag_ints hiw]; decide)
    · exact off p hp2 (by rw [h, tag_list, tag_ints hio]; decide)
    · rw [h]; exact hma
    · exact off p hp2 (by rw [h]; exact fun z => by cases z)
    · exact off p hp2 (by rw [h]; exact fun z => by cases z)
    · exact off p hp2 (by rw [h]; exact fun z => by cases z)
    · exact off p hp2 (by rw [h]; exact fun z => by cases z)
    · exact off p hp2 (by rw [h]; exact fun z => by cases z)
    · exact off p hp2 (by rw [h]; exact fun z => by cases z)
    · exact off p hp2 (by rw [h, tag_list]; exact fun z => by cases z)
    · exact off p hp2 (by rw [h, tag_list, ht0]; decide)
    · exact off p hp2 (by rw [h, tag_list, ht1]; decide)
    · exact off p hp2 (by rw [h, tag_list, htl]; decide)
    · exact off p hp2 (by rw [h, tag_list, htz]; decide)
    · exact off p hp2 (by rw [h, hoM]; decide)
    · exact off p hp2 (by rw [h, hoP]; decide)
    · exact off p hp2 (hown p h)
  intro h' F' N'
  k_steps
  exact k _ _ (by assumption) (by assumption)
end Mine
end
section
open PySem PySem.W PyProof.Rows PySem.Calls PyProof.Rows.LCg
set_option Elab.async false
namespace Mine
theorem plain_Turn10 : True := by
  w_top off
  k_with_none
  trivial
set_option maxRecDepth 100000
theorem units_law {e : Env} : (callerA.deeper e).units < cLine := by
  show 7 < cLine
  decide
theorem Ans.same {a : Ans} {v v' : Value} (h : a.is v) (h' : a.is v') : SameV v v' := by
  cases a with
  | trap =>
    rw [show v = .none from h, show v' = .none from h']; exact .non
  | non => rw [show v = .none from h, show v' = .none from h']; exact .non
  | num n =>
    obtain ⟨t, rfl⟩ : ∃ t, v = .int n t := h
    obtain ⟨t', rfl⟩ : ∃ t, v' = .int n t := h'
    exact .int _ _ _
  | byt d =>
    obtain ⟨t, rfl⟩ : ∃ t, v = .bytes d.toArray t := h
    obtain ⟨t', rfl⟩ : ∃ t, v' = .bytes d.toArray t := h'
    exact .byt _ _ _
theorem lines_Turn10_0 : True := by
  w_top off
  k_with_none
  k_with "mine eval Call" => (k_here; (with_reducible show wpAny _ _ (eval (Expr.Call (Expr.Name _ _) _ [] _) _) _ _ _); k_dflt (refine Call_ ?_))
  trivial

set_option maxHeartbeats 1000000 in
theorem turn_10 (w : World) (mean : ExcName → Option Value) (mg mb : Str → Option Value) (h₀ : Heap) (L fa l : Addr) (cd : Value) (vs : List Value) (ns : List Int) (s : Shared) (Q : Flow → Shared → Prop) (M0 M1 : Mem) (kR kM kz c0 c1 : Nat) (MA RA LM SG rw' r0 r1 ZA : Addr) (w0 w1 : List Value) (oP oM : Obj) (pg : Int) (tp : Tok) (own : List (Addr × Obj)) (i : Nat) (ti : Tok) (dg nu le op wh : Int) (td tn tl to' tw : Tok) (sv : Value) (my : Int) (tm : Tok) (xo : Int) (tx : Tok) (D : Addr) (be : Int) (tb : Tok) (hv : Value) (O : Addr) (wd : Str) (ts ts' : Tok) (v v' : Value) (I' D' : Addr) (fm : Str → Option Value) :
    ∀ (_B : Below callerA h₀ [] h₀) (_X : (MineH.top.heap_1 w.params).In h₀) (_T : Top MineH.top.view_1 (looseW MineH.top.view_1 []) mean mg mb h₀) (_hl : h₀.IsList l vs.toArray) (_hi : IntsAre vs ns) (_hn : ns.length ≤ 63) (_ok0 : M0.Ok) (_ok1 : M1.Ok) (_i0 : IntsAre w0 (octInts M0.d)) (_i1 : IntsAre w1 (octInts M1.d)) (_g0 : M0.page = pg) (_g1 : M1.page = pg) (_sv : SameV v v') (_dM : oM.data = .cell (some (.ref ZA))) (_dP : oP.data = .cell (some (.int pg tp)))
    (_F : Fr h₀ L s.heap (fun y => if y = "after" then some (.ref D') else if y = "due" then some (.ref I') else if y = "told" then some (.ref O) else if y = "handed" then some hv else if y = "begin" then some (.int be tb) else if y = "source" then some (.ref D) else if y = "to" then some (.int xo tx) else if y = "many" then some (.int my tm) else if y = "segment" then some sv else if y = "row" then some (.ref rw') else if y = "which" then some (.int wh tw) else if y = "op" then some (.int op to') else if y = "length" then some (.int le tl) else if y = "number" then some (.int nu tn) else if y = "digit" then some (.int dg td) else if y = "k" then some (.int (i : Int) ti) else if y = "rows" then some (.ref RA) else if y = "memories" then some (.ref MA) else if y = "segments" then some (.ref SG) else if y = "limits" then some (.ref LM) else if y = "script" then some (.ref l) else fm y)) (_N : News h₀ L s.heap ((O, tupO [.str wd ts, v]) :: (I', tupO [.str wd ts', v']) :: (RA, lstO [.ref r0, .ref r1] kR) :: (r0, lstO w0 c0) :: (r1, lstO w1 c1) :: (MA, lstO [.ref M0.x, .ref M1.x] kM) :: M0.led (M1.led ((ZA, lstO [M0.most, M1.most] kz) :: (L + 1 + 1 + 1 + 1 + 1 + 1, oM) :: (L + 1 + 1 + 1, oP) :: own))))
    (_k : ∀ (h' : Heap) (tk : Nat), Fr h₀ L h' (fun y => if y = "after" then some (.ref D') else if y = "due" then some (.ref I') else if y = "told" then some (.ref O) else if y = "handed" then some hv else if y = "begin" then some (.int be tb) else if y = "source" then some (.ref D) else if y = "to" then some (.int xo tx) else if y = "many" then some (.int my tm) else if y = "segment" then some sv else if y = "row" then some (.ref rw') else if y = "which" then some (.int wh tw) else if y = "op" then some (.int op to') else if y = "length" then some (.int le tl) else if y = "number" then some (.int nu tn) else if y = "digit" then some (.int dg td) else if y = "k" then some (.int (i : Int) ti) else if y = "rows" then some (.ref RA) else if y = "memories" then some (.ref MA) else if y = "segments" then some (.ref SG) else if y = "limits" then some (.ref LM) else if y = "script" then some (.ref l) else fm y) → News h₀ L h' ((O, tupO [.str wd ts, v]) :: (I', tupO [.str wd ts', v']) :: (RA, lstO [.ref r0, .ref r1] kR) :: (r0, lstO w0 c0) :: (r1, lstO w1 c1) :: (MA, lstO [.ref M0.x, .ref M1.x] kM) :: M0.led (M1.led ((ZA, lstO [M0.most, M1.most] kz) :: (L + 1 + 1 + 1 + 1 + 1 + 1, oM) :: (L + 1 + 1 + 1, oP) :: own))) → Q .next { s with heap := h', toks := tk }),
    wpC (model PySem.Challenge.rw_nm0116_01.row.prog w) (callerA.deeper (lawE L fa cd)) (execs (forB.drop 16) (lawE L fa cd)) Q (fun _ _ => False) s := by
  k_fill
  intro B X T hl hi hn ok0 ok1 i0 i1 g0 g1 hsv dM dP F N _k
  unfold lawE at *
  conv =>
    enter [3, 1]
    whnf
  generalize hS : lawS = sc at *
  conv at hS =>
    lhs
    whnf
  subst hS
  generalize hB : forB = fb at *
  conv at hB =>
    lhs
    whnf
  subst hB
  refine wpC_execs_cons (wpC_If ?_)
  iterate 4 walk1
  refine ne_tup2 N (.head _) (.tail _ (.head _)) (.str _ _ _) hsv units_law ?_
  iterate 18 walk1
  refine' Calls.use (same_calls w M0 M1 ok0 ok1 MA RA ZA r0 r1 w0 w1 kM kR kz c0 c1 pg _ i0 i1 g0 g1 ((O, tupO [.str wd ts, v]) :: (I', tupO [.str wd ts', v']) :: (RA, lstO [.ref r0, .ref r1] kR) :: (r0, lstO w0 c0) :: (r1, lstO w1 c1) :: (MA, lstO [.ref M0.x, .ref M1.x] kM) :: M0.led (M1.led ((ZA, lstO [M0.most, M1.most] kz) :: (L + 1 + 1 + 1 + 1 + 1 + 1, oM) :: (L + 1 + 1 + 1, oP) :: own)))) ?B ?F ?X ?N ?T ?k ?d ?u ?_ ?x
  case B => k_asm
  case F => k_asm
  case X => k_asm
  case N => exact news_same (by k_asm) (.tail _ (.tail _ (.tail _ (.tail _ (.tail _ (.head _)))))) (.tail _ (.tail _ (.head _))) (.tail _ (.tail _ (.tail _ (.tail _ (.tail _ (.tail _ (.tail _ (.tail _ (.tail _ (.tail _ (.tail _ (.tail _ (.head _))))))))))))) (.tail _ (.tail _ (.tail _ (.head _)))) (.tail _ (.tail _ (.tail _ (.tail _ (.head _))))) (.tail _ (.tail _ (.tail _ (.tail _ (.tail _ (.tail _ (.head _))))))) (.tail _ (.tail _ (.tail _ (.tail _ (.tail _ (.tail _ (.tail _ (.head _)))))))) (.tail _ (.tail _ (.tail _ (.tail _ (.tail _ (.tail _ (.tail _ (.tail _ (.head _))))))))) (.tail _ (.tail _ (.tail _ (.tail _ (.tail _ (.tail _ (.tail _ (.tail _ (.tail _ (.head _)))))))))) (.tail _ (.tail _ (.tail _ (.tail _ (.tail _ (.tail _ (.tail _ (.tail _ (.tail _ (.tail _ (.head _))))))))))) (.tail _ (.tail _ (.tail _ (.tail _ (.tail _ (.tail _ (.tail _ (.tail _ (.tail _ (.tail _ (.tail _ (.head _))))))))))))
  case T => k_asm
  case k => k_dflt (exact rfl)
  case d => first | decide | ktr_room
  case u => first | decide | ktr_units
  case x => exact fun _ _ _ _ _ _ _ _ _ hx _ _ => hx.elim
  k_whole
  intro r n' h' tk' hP F' N'
  obtain ⟨hr, hn⟩ := hP
  subst hr
  subst hn
  k_steps
  refine wpC_execs_nil ?_
  exact wpC_execs_nil (_k _ _ (by assumption) (by assumption))
end Mine
end
section
open PySem PySem.W PyProof.Rows PySem.Calls PyProof.Rows.LCg
set_option Elab.async false
namespace Mine
set_option maxRecDepth 100000
theorem seg_pick {s0 s1 : Addr} {ss0 ss1 : List Value} {i0 i1 : Nat} {sv : Value} {g0 g1 : List UInt8} {all : List (Addr × Obj)} (m0 : (s0, lstO ss0 i0) ∈ all) (m1 : (s1, lstO ss1 i1) ∈ all) (q0 : IntsAre ss0 (octInts g0)) (q1 : IntsAre ss1 (octInts g1)) (z0 : g0.length ≤ 9) (z1 : g1.length ≤ 9) (h : sv = .ref s0 ∨ sv = .ref s1 ∨ sv = .none) :
    ∃ (z : Addr) (zs : List Value) (zi : Nat) (gz : List UInt8) (sg : List Int), IntsAre zs (octInts gz) ∧ gz.length ≤ 9 ∧ ((sv = .none ∧ sg = []) ∨ (sv = .ref z ∧ sg = octInts gz)) ∧ (z, lstO zs zi) ∈ all := by
  rcases h with h | h | h
  · exact ⟨s0, ss0, i0, g0, _, q0, z0, .inr ⟨h, rfl⟩, m0⟩
  · exact ⟨s1, ss1, i1, g1, _, q1, z1, .inr ⟨h, rfl⟩, m1⟩
  · exact ⟨s0, ss0, i0, g0, _, q0, z0, .inl ⟨h, rfl⟩, m0⟩

set_option maxHeartbeats 1000000 in
theorem turn_mid (w : World) (mean : ExcName → Option Value) (mg mb : Str → Option Value) (h₀ : Heap) (L fa l : Addr) (cd : Value) (vs : List Value) (ns : List Int) (s : Shared) (Q : Flow → Shared → Prop) (fm : Str → Option Value) (Mw Mo : Mem) (mm rr ll : List Value) (kM kR kL : Nat) (MA RA LM SG s0 s1 rw' ro : Addr) (ww wo : List Value) (kw ko : Nat) (ss0 ss1 : List Value) (i0 i1 ng : Nat) (I : Addr) (oI oP oM : Obj) (ZA : Addr) (zz : List Value) (kz : Nat) (pg : Int) (tp : Tok) (own : List (Addr × Obj)) (i : Nat) (ti : Tok) (dg nu le op wh : Int) (td tn tl to' tw : Tok) (g0 g1 : List UInt8) (lim : Int) (ul : Tok) :
    ∀ (_B : Below callerA h₀ [] h₀) (_X : (MineH.top.heap_1 w.params).In h₀) (_T : Top MineH.top.view_1 (looseW MineH.top.view_1 []) mean mg mb h₀) (_hl : h₀.IsList l vs.toArray) (_hi : IntsAre vs ns) (_hn : ns.length ≤ 63) (_i : i < 15) (_ok : Mw.Ok) (_ok' : Mo.Ok) (_hop : 0 ≤ op ∧ op < 9) (_hwh : 0 ≤ wh ∧ wh ≤ 1) (_r1 : rr[wh.toNat]? = some (.ref rw')) (_r2 : rr[(1 - wh).toNat]? = some (.ref ro)) (_m1 : mm[wh.toNat]? = some (.ref Mw.x)) (_m2 : mm[(1 - wh).toNat]? = some (.ref Mo.x)) (_l : ll[wh.toNat]? = some (.int lim ul)) (_iw : IntsAre ww (octInts Mw.d)) (_io : IntsAre wo (octInts Mo.d)) (_q0 : IntsAre ss0 (octInts g0)) (_q1 : IntsAre ss1 (octInts g1)) (_z0 : g0.length ≤ 9) (_z1 : g1.length ≤ 9) (_dz : Mw.d.length ≤ 48) (_do : Mo.d.length ≤ 48) (_pg : 3 ≤ pg ∧ pg ≤ 8) (_hp : Mw.page = pg) (_lm : lim ≤ 5) (_lim : LimIs Mw.most Mw.pages lim) (_nb : @Ne Nat Mo.b Mw.b) (_rr : rr.length = 2) (_tr : tagV rr = 4) (_ma : @Ne Nat MA RA) (_tl : tagV ll = 0) (_tz : tagV zz = 0) (_oI : tagO oI = 2) (_dM : tagO oM = 1) (_dP : oP.data = .cell (some (.int pg tp))) (_own : ∀ p ∈ own, tagO p.2 ≠ 3 ∧ tagO p.2 ≠ 4)
    (_F : Fr h₀ L s.heap (fun y => if y = "which" then some (.int wh tw) else if y = "op" then some (.int op to') else if y = "length" then some (.int le tl) else if y = "number" then some (.int nu tn) else if y = "digit" then some (.int dg td) else if y = "k" then some (.int (i : Int) ti) else if y = "rows" then some (.ref RA) else if y = "memories" then some (.ref MA) else if y = "segments" then some (.ref SG) else if y = "limits" then some (.ref LM) else if y = "script" then some (.ref l) else fm y)) (_N : News h₀ L s.heap ((I, oI) :: (RA, lstO rr kR) :: (rw', lstO ww kw) :: (ro, lstO wo ko) :: (MA, lstO mm kM) :: Mw.led (Mo.led ((SG, lstO [.ref s0, .ref s1, .none] ng) :: (s0, lstO ss0 i0) :: (s1, lstO ss1 i1) :: (LM, lstO ll kL) :: (ZA, lstO zz kz) :: (L + 1 + 1 + 1 + 1 + 1 + 1, oM) :: (L + 1 + 1 + 1, oP) :: own))))
    (_k : ∀ (sv : Value) (my : Int) (tm : Tok) (xo : Int) (tx : Tok) (D : Addr) (ys : List Value) (nD : Nat) (be : Int) (tb : Tok) (hv : Value) (O I' D' : Addr) (wd : Str) (ts ts' : Tok) (v v' : Value) (ys' : List Value) (n' : Nat) (d' : List UInt8) (h' : Heap) (tk : Nat),
      SameV v v' → IntsAre ys' (octInts d') → d'.length ≤ 48 → Fr h₀ L h' (fun y => if y = "after" then some (.ref D') else if y = "due" then some (.ref I') else if y = "told" then some (.ref O) else if y = "handed" then some hv else if y = "begin" then some (.int be tb) else if y = "source" then some (.ref D) else if y = "to" then some (.int xo tx) else if y = "many" then some (.int my tm) else if y = "segment" then some sv else if y = "row" then some (.ref rw') else if y = "which" then some (.int wh tw) else if y = "op" then some (.int op to') else if y = "length" then some (.int le tl) else if y = "number" then some (.int nu tn) else if y = "digit" then some (.int dg td) else if y = "k" then some (.int (i : Int) ti) else if y = "rows" then some (.ref RA) else if y = "memories" then some (.ref MA) else if y = "segments" then some (.ref SG) else if y = "limits" then some (.ref LM) else if y = "script" then some (.ref l) else fm y) → News h₀ L h' ((I', tupO [.str wd ts', v']) :: (D', lstO ys' n') :: (O, tupO [.str wd ts, v]) :: (D, lstO ys nD) :: ((I, oI) :: (RA, lstO (rr.set wh.toNat (.ref D')) kR) :: (rw', lstO ww kw) :: (ro, lstO wo ko) :: (MA, lstO mm kM) :: (({ Mw with d := d' } : Mem)).led (Mo.led ((SG, lstO [.ref s0, .ref s1, .none] ng) :: (s0, lstO ss0 i0) :: (s1, lstO ss1 i1) :: (LM, lstO ll kL) :: (ZA, lstO zz kz) :: (L + 1 + 1 + 1 + 1 + 1 + 1, oM) :: (L + 1 + 1 + 1, oP) :: own)))) →
      wpC (model PySem.Challenge.rw_nm0116_01.row.prog w) (callerA.deeper (lawE L fa cd)) (execs (forB.drop 16) (lawE L fa cd)) Q (fun _ _ => False) { s with heap := h', toks := tk }),
    wpC (model PySem.Challenge.rw_nm0116_01.row.prog w) (callerA.deeper (lawE L fa cd)) (execs (forB.drop 5) (lawE L fa cd)) Q (fun _ _ => False) s := by
  intro B X T hl hi hn hi15 ok ok' hop hwh r1 r2 m1 m2 hll hiw hio q0 q1 z0 z1 hdz hdo hpg hp hlm hlim hnb hrr htr hma htl htz hoI hoM dP hown F N k
  have hoP : tagO oP = 1 := tag_cell dP
  refine turn_2 w mean mg mb h₀ L fa l cd vs ns s Q fm Mw Mo mm rr ll kM kR kL MA RA LM SG s0 s1 rw' ro ww wo kw ko ss0 ss1 i0 i1 ng I oI oP oM ZA zz kz pg tp own i ti dg nu le op wh td tn tl to' tw B X T hl hi hn hop hwh r1 F N ?_
  unfold T2K
  intro sv my tm h2 k2 hsv hmy F2 N2
  refine turn_3 w mean mg mb h₀ L fa l cd vs ns _ Q fm Mw Mo mm rr ll kM kR kL MA RA LM SG s0 s1 rw' ro ww wo kw ko ss0 ss1 i0 i1 ng I oI oP oM ZA zz kz pg tp own i ti dg nu le op wh td tn tl to' tw sv my tm B X T hl hi hn hi15 hiw (Nat.le_trans hdz (by decide)) F2 N2 ?_
  unfold T3K
  intro xo tx h3 k3 F3 N3
  obtain ⟨z, zs, zi, gz, sg, hq, zq, hsg, hz⟩ := seg_pick (s0 := s0) (s1 := s1) (ss0 := ss0) (ss1 := ss1) (i0 := i0) (i1 := i1) (all := ((I, oI) :: (RA, lstO rr kR) :: (rw', lstO ww kw) :: (ro, lstO wo ko) :: (MA, lstO mm kM) :: Mw.led (Mo.led ((SG, lstO [.ref s0, .ref s1, .none] ng) :: (s0, lstO ss0 i0) :: (s1, lstO ss1 i1) :: (LM, lstO ll kL) :: (ZA, lstO zz kz) :: (L + 1 + 1 + 1 + 1 + 1 + 1, oM) :: (L + 1 + 1 + 1, oP) :: own)))) (by simp only [List.mem_cons, true_or, or_true]) (by simp only [List.mem_cons, true_or, or_true]) q0 q1 z0 z1 hsv
  have hol : (octInts Mw.d).length ≤ 1000 := by rw [octInts_length]; exact Nat.le_trans hdz (by decide)
  refine turn_4 w mean mg mb h₀ L fa l cd vs ns _ Q fm Mw Mo mm rr ll kM kR kL MA RA LM SG s0 s1 rw' ro ww wo kw ko ss0 ss1 i0 i1 ng I oI oP oM ZA zz kz pg tp own i ti dg nu le op wh td tn tl to' tw sv my tm xo tx z zs zi (octInts gz) sg B X T hl hi hn hwh r2 hiw hio hq hol (fun e => ⟨(hmy e).1, Int.le_trans (hmy e).2 (by decide)⟩) hsg F3 N3 hz ?_
  unfold T4K
  intro D ys src nD h4 k4 hy hsrc F4 N4
  have osg : OctL sg := by
    rcases hsg with ⟨_, e⟩ | ⟨_, e⟩ <;> rw [e]
    · exact octL_nil
    · exact octL_oct _
  have lsg : sg.length ≤ 1000 := by
    rcases hsg with ⟨_, e⟩ | ⟨_, e⟩ <;> rw [e]
    · exact Nat.zero_le _
    · rw [octInts_length]; exact Nat.le_trans zq (by decide)
  have osrc : OctL src := by rw [hsrc]; exact source_oct (octL_oct _) (octL_oct _) osg
  have lsrc : src.length ≤ 1000 := by rw [hsrc]; exact source_len hmy hol (by rw [octInts_length]; exact Nat.le_trans hdo (by decide)) lsg
  refine turn_5 w mean mg mb h₀ L fa l cd vs ns _ Q fm Mw Mo mm rr ll kM kR kL MA RA LM SG s0 s1 rw' ro ww wo kw ko ss0 ss1 i0 i1 ng I oI oP oM ZA zz kz pg tp own i ti dg nu le op wh td tn tl to' tw sv my tm xo tx D ys src nD B X T hl hi hn hy lsrc F4 N4 ?_
  unfold T5K
  intro be tb h5 k5 hbe F5 N5
  have hy' : IntsAre ys (octInts (toU src)) := by rw [oct_toU osrc]; exact hy
  refine turn_6 w mean mg mb h₀ L fa l cd vs ns _ Q fm Mw Mo mm rr ll kM kR kL MA RA LM SG s0 s1 rw' ro ww wo kw ko ss0 ss1 i0 i1 ng I oI oP oM ZA zz kz pg tp own i ti dg nu le op wh td tn tl to' tw sv my tm xo tx D ys nD be tb z zs zi (toU src) gz B X T hl hi hn hy' (by rw [toU_length]; exact Nat.le_trans lsrc (by decide)) hq (Nat.le_trans zq (by decide)) (by
    rcases hsg with ⟨e, _⟩ | ⟨e, _⟩
    · exact .inl e
    · exact .inr e) F5 N5 (.tail _ hz) ?_
  unfold T6K
  intro hv h6 k6 hhv F6 N6
  have hh : HandIs op hv src sg := by
    rcases hhv with ⟨e, t, hv⟩ | ⟨e, ⟨e1, hv⟩ | ⟨t, e1, hv⟩⟩
    · exact .inl ⟨e, _, t, hv, oct_toU osrc⟩
    · rcases hsg with ⟨_, e2⟩ | ⟨e2, _⟩
      · exact .inr ⟨e, .inl ⟨hv, e2⟩⟩
      · rw [e1] at e2; cases e2
    · rcases hsg with ⟨e2, _⟩ | ⟨_, e2⟩
      · rw [e1] at e2; cases e2
      · exact .inr ⟨e, .inr ⟨_, t, hv, e2, Nat.le_trans zq (by decide)⟩⟩
  refine turn_7 w mean mg mb h₀ L fa l cd vs ns _ Q fm Mw Mo mm rr ll kM kR kL MA RA LM SG s0 s1 rw' ro ww wo kw ko ss0 ss1 i0 i1 ng I oI oP oM ZA zz kz pg tp own i ti dg nu le op wh td tn tl to' tw sv my tm xo tx D ys nD be tb hv src sg lim B X T hl hi hn ok ok' hwh m1 m2 hop hmy hbe hsrc hh hlim (Nat.le_trans hdz (by decide)) hnb hoI hoM hoP (fun p hp => (hown p hp).1) F6 N6 ?_
  unfold T7K
  intro O a ts v d' h7 k7 hdue hav F7 N7
  rw [hp] at hdue
  refine turn_8 w mean mg mb h₀ L fa l cd vs ns _ Q fm ({ Mw with d := d' } : Mem) Mo mm rr ll kM kR kL MA RA LM SG s0 s1 rw' ro ww wo kw ko ss0 ss1 i0 i1 ng I oI oP oM ZA zz kz pg tp own i ti dg nu le op wh td tn tl to' tw sv my tm xo tx D ys nD be tb hv O a ts v Mw.d src lim ul B X T hl hi hn hwh hll hiw hy hol lsrc (Int.lt_of_lt_of_le (by decide) hpg.1) (Int.lt_of_le_of_lt hpg.2 (by decide)) (Int.le_trans hlm (by decide)) dP F7 N7 ?_
  unfold T8K
  rw [hdue]
  intro I' D' ts' v' ys' n' h8 k8 hy2 hav' F8 N8
  dsimp only at hy2 hav'
  refine turn_9 w mean mg mb h₀ L fa l cd vs ns _ Q fm ({ Mw with d := d' } : Mem) Mo mm rr ll kM kR kL MA RA LM SG s0 s1 rw' ro ww wo kw ko ss0 ss1 i0 i1 ng I oI oP oM ZA zz kz pg tp own i ti dg nu le op wh td tn tl to' tw sv my tm xo tx D ys nD be tb hv O a ts v a.word I' D' ts' v' ys' n' Mw.d src (octInts d') B X T hl hi hn hwh hrr htr hma hiw hio hy hy2 (tag_ints q0) (tag_ints q1) htl htz hoI hoM hoP (fun p hp => (hown p hp).2) F8 N8 ?_
  unfold T9K
  intro h9 k9 F9 N9
  have hlen : d'.length ≤ 48 := by
    have e := due_len (op := op) (to := xo) (be := be) (my := my) (limit := lim) (page := pg) (ns := octInts Mw.d) (src := src) hpg hlm (by rw [octInts_length]; exact hdz)
    rw [hdue] at e
    rw [← octInts_length]; exact e
  exact k sv my tm xo tx D ys nD be tb hv O I' D' a.word ts ts' v v' ys' n' d' h9 k9 (Ans.same hav hav') hy2 hlen F9 N9
end Mine
end
section
open PySem PySem.W PyProof.Rows PySem.Calls PyProof.Rows.LCg
set_option Elab.async false
namespace Mine
set_option maxRecDepth 100000
theorem frPin5 {h₀ h : Heap} {L : Addr} {m : Str → Option Value} {v1 v2 v3 v4 v5 : Value} (F : Fr h₀ L h m) (h1 : m "rows" = some v1) (h2 : m "memories" = some v2) (h3 : m "segments" = some v3) (h4 : m "limits" = some v4) (h5 : m "script" = some v5) :
    Fr h₀ L h (fun y => if y = "rows" then some v1 else if y = "memories" then some v2 else if y = "segments" then some v3 else if y = "limits" then some v4 else if y = "script" then some v5 else m y) := by
  have P5 := frPin F h5
  have P4 := frPin P5 (x := "limits") (v := v4) (by rw [if_neg (by decide)]; exact h4)
  have P3 := frPin P4 (x := "segments") (v := v3) (by rw [if_neg (by decide), if_neg (by decide)]; exact h3)
  have P2 := frPin P3 (x := "memories") (v := v2) (by rw [if_neg (by decide), if_neg (by decide), if_neg (by decide)]; exact h2)
  exact frPin P2 (x := "rows") (v := v1) (by rw [if_neg (by decide), if_neg (by decide), if_neg (by decide), if_neg (by decide)]; exact h1)
theorem perm_w1 {M N : Mem} {ii ra x0 x1 ma sg e0 e1 lm za om op : Addr × Obj} {own : List (Addr × Obj)} : ∀ p ∈ ii :: ra :: x1 :: x0 :: ma :: N.led (M.led (sg :: e0 :: e1 :: lm :: za :: om :: op :: own)), p ∈ ii :: ra :: x0 :: x1 :: ma :: M.led (N.led (sg :: e0 :: e1 :: lm :: za :: om :: op :: own)) :=
  List.forall_mem_cons.mpr ⟨.head _, List.forall_mem_cons.mpr ⟨.tail _ (.head _), List.forall_mem_cons.mpr ⟨.tail _ (.tail _ (.tail _ (.head _))), List.forall_mem_cons.mpr ⟨.tail _ (.tail _ (.head _)), List.forall_mem_cons.mpr ⟨.tail _ (.tail _ (.tail _ (.tail _ (.head _)))), List.forall_mem_cons.mpr ⟨.tail _ (.tail _ (.tail _ (.tail _ (.tail _ (.tail _ (.tail _ (.tail _ (.head _)))))))), List.forall_mem_cons.mpr ⟨.tail _ (.tail _ (.tail _ (.tail _ (.tail _ (.tail _ (.tail _ (.tail _ (.tail _ (.head _))))))))), List.forall_mem_cons.mpr ⟨.tail _ (.tail _ (.tail _ (.tail _ (.tail _ (.tail _ (.tail _ (.tail _ (.tail _ (.tail _ (.head _)))))))))), List.forall_mem_cons.mpr ⟨.tail _ (.tail _ (.tail _ (.tail _ (.tail _ (.head _))))), List.forall_mem_cons.mpr ⟨.tail _ (.tail _ (.tail _ (.tail _ (.tail _ (.tail _ (.head _)))))), List.forall_mem_cons.mpr ⟨.tail _ (.tail _ (.tail _ (.tail _ (.tail _ (.tail _ (.tail _ (.head _))))))), List.forall_mem_cons.mpr ⟨.tail _ (.tail _ (.tail _ (.tail _ (.tail _ (.tail _ (.tail _ (.tail _ (.tail _ (.tail _ (.tail _ (.head _))))))))))), List.forall_mem_cons.mpr ⟨.tail _ (.tail _ (.tail _ (.tail _ (.tail _ (.tail _ (.tail _ (.tail _ (.tail _ (.tail _ (.tail _ (.tail _ (.head _)))))))))))), List.forall_mem_cons.mpr ⟨.tail _ (.tail _ (.tail _ (.tail _ (.tail _ (.tail _ (.tail _ (.tail _ (.tail _ (.tail _ (.tail _ (.tail _ (.tail _ (.head _))))))))))))), List.forall_mem_cons.mpr ⟨.tail _ (.tail _ (.tail _ (.tail _ (.tail _ (.tail _ (.tail _ (.tail _ (.tail _ (.tail _ (.tail _ (.tail _ (.tail _ (.tail _ (.head _)))))))))))))), List.forall_mem_cons.mpr ⟨.tail _ (.tail _ (.tail _ (.tail _ (.tail _ (.tail _ (.tail _ (.tail _ (.tail _ (.tail _ (.tail _ (.tail _ (.tail _ (.tail _ (.tail _ (.head _))))))))))))))), List.forall_mem_cons.mpr ⟨.tail _ (.tail _ (.tail _ (.tail _ (.tail _ (.tail _ (.tail _ (.tail _ (.tail _ (.tail _ (.tail _ (.tail _ (.tail _ (.tail _ (.tail _ (.tail _ (.head _)))))))))))))))), List.forall_mem_cons.mpr ⟨.tail _ (.tail _ (.tail _ (.tail _ (.tail _ (.tail _ (.tail _ (.tail _ (.tail _ (.tail _ (.tail _ (.tail _ (.tail _ (.tail _ (.tail _ (.tail _ (.tail _ (.head _))))))))))))))))), fun _ hp => .tail _ (.tail _ (.tail _ (.tail _ (.tail _ (.tail _ (.tail _ (.tail _ (.tail _ (.tail _ (.tail _ (.tail _ (.tail _ (.tail _ (.tail _ (.tail _ (.tail _ (.tail _ (hp))))))))))))))))))⟩⟩⟩⟩⟩⟩⟩⟩⟩⟩⟩⟩⟩⟩⟩⟩⟩⟩
theorem perm_t0 {M N : Mem} {ii ra x0 x1 ma sg e0 e1 lm za om op o i d q : Addr × Obj} {own : List (Addr × Obj)} : ∀ p ∈ o :: i :: ra :: d :: x1 :: ma :: M.led (N.led (za :: om :: op :: ii :: sg :: e0 :: e1 :: lm :: own)), p ∈ i :: d :: o :: q :: ii :: ra :: x0 :: x1 :: ma :: M.led (N.led (sg :: e0 :: e1 :: lm :: za :: om :: op :: own)) :=
  List.forall_mem_cons.mpr ⟨.tail _ (.tail _ (.head _)), List.forall_mem_cons.mpr ⟨.head _, List.forall_mem_cons.mpr ⟨.tail _ (.tail _ (.tail _ (.tail _ (.tail _ (.head _))))), List.forall_mem_cons.mpr ⟨.tail _ (.head _), List.forall_mem_cons.mpr ⟨.tail _ (.tail _ (.tail _ (.tail _ (.tail _ (.tail _ (.tail _ (.head _))))))), List.forall_mem_cons.mpr ⟨.tail _ (.tail _ (.tail _ (.tail _ (.tail _ (.tail _ (.tail _ (.tail _ (.head _)))))))), List.forall_mem_cons.mpr ⟨.tail _ (.tail _ (.tail _ (.tail _ (.tail _ (.tail _ (.tail _ (.tail _ (.tail _ (.head _))))))))), List.forall_mem_cons.mpr ⟨.tail _ (.tail _ (.tail _ (.tail _ (.tail _ (.tail _ (.tail _ (.tail _ (.tail _ (.tail _ (.head _)))))))))), List.forall_mem_cons.mpr ⟨.tail _ (.tail _ (.tail _ (.tail _ (.tail _ (.tail _ (.tail _ (.tail _ (.tail _ (.tail _ (.tail _ (.head _))))))))))), List.forall_mem_cons.mpr ⟨.tail _ (.tail _ (.tail _ (.tail _ (.tail _ (.tail _ (.tail _ (.tail _ (.tail _ (.tail _ (.tail _ (.tail _ (.head _)))))))))))), List.forall_mem_cons.mpr ⟨.tail _ (.tail _ (.tail _ (.tail _ (.tail _ (.tail _ (.tail _ (.tail _ (.tail _ (.tail _ (.tail _ (.tail _ (.tail _ (.head _))))))))))))), List.forall_mem_cons.mpr ⟨.tail _ (.tail _ (.tail _ (.tail _ (.tail _ (.tail _ (.tail _ (.tail _ (.tail _ (.tail _ (.tail _ (.tail _ (.tail _ (.tail _ (.head _)))))))))))))), List.forall_mem_cons.mpr ⟨.tail _ (.tail _ (.tail _ (.tail _ (.tail _ (.tail _ (.tail _ (.tail _ (.tail _ (.tail _ (.tail _ (.tail _ (.tail _ (.tail _ (.tail _ (.tail _ (.tail _ (.tail _ (.tail _ (.head _))))))))))))))))))), List.forall_mem_cons.mpr ⟨.tail _ (.tail _ (.tail _ (.tail _ (.tail _ (.tail _ (.tail _ (.tail _ (.tail _ (.tail _ (.tail _ (.tail _ (.tail _ (.tail _ (.tail _ (.tail _ (.tail _ (.tail _ (.tail _ (.tail _ (.head _)))))))))))))))))))), List.forall_mem_cons.mpr ⟨.tail _ (.tail _ (.tail _ (.tail _ (.tail _ (.tail _ (.tail _ (.tail _ (.tail _ (.tail _ (.tail _ (.tail _ (.tail _ (.tail _ (.tail _ (.tail _ (.tail _ (.tail _ (.tail _ (.tail _ (.tail _ (.head _))))))))))))))))))))), List.forall_mem_cons.mpr ⟨.tail _ (.tail _ (.tail _ (.tail _ (.head _)))), List.forall_mem_cons.mpr ⟨.tail _ (.tail _ (.tail _ (.tail _ (.tail _ (.tail _ (.tail _ (.tail _ (.tail _ (.tail _ (.tail _ (.tail _ (.tail _ (.tail _ (.tail _ (.head _))))))))))))))), List.forall_mem_cons.mpr ⟨.tail _ (.tail _ (.tail _ (.tail _ (.tail _ (.tail _ (.tail _ (.tail _ (.tail _ (.tail _ (.tail _ (.tail _ (.tail _ (.tail _ (.tail _ (.tail _ (.head _)))))))))))))))), List.forall_mem_cons.mpr ⟨.tail _ (.tail _ (.tail _ (.tail _ (.tail _ (.tail _ (.tail _ (.tail _ (.tail _ (.tail _ (.tail _ (.tail _ (.tail _ (.tail _ (.tail _ (.tail _ (.tail _ (.head _))))))))))))))))), List.forall_mem_cons.mpr ⟨.tail _ (.tail _ (.tail _ (.tail _ (.tail _ (.tail _ (.tail _ (.tail _ (.tail _ (.tail _ (.tail _ (.tail _ (.tail _ (.tail _ (.tail _ (.tail _ (.tail _ (.tail _ (.head _)))))))))))))))))), fun _ hp => .tail _ (.tail _ (.tail _ (.tail _ (.tail _ (.tail _ (.tail _ (.tail _ (.tail _ (.tail _ (.tail _ (.tail _ (.tail _ (.tail _ (.tail _ (.tail _ (.tail _ (.tail _ (.tail _ (.tail _ (.tail _ (.tail _ (hp))))))))))))))))))))))⟩⟩⟩⟩⟩⟩⟩⟩⟩⟩⟩⟩⟩⟩⟩⟩⟩⟩⟩⟩
theorem perm_t1 {M N : Mem} {ii ra x0 x1 ma sg e0 e1 lm za om op o i d q : Addr × Obj} {own : List (Addr × Obj)} : ∀ p ∈ o :: i :: ra :: x0 :: d :: ma :: M.led (N.led (za :: om :: op :: ii :: sg :: e0 :: e1 :: lm :: own)), p ∈ i :: d :: o :: q :: ii :: ra :: x1 :: x0 :: ma :: N.led (M.led (sg :: e0 :: e1 :: lm :: za :: om :: op :: own)) :=
  List.forall_mem_cons.mpr ⟨.tail _ (.tail _ (.head _)), List.forall_mem_cons.mpr ⟨.head _, List.forall_mem_cons.mpr ⟨.tail _ (.tail _ (.tail _ (.tail _ (.tail _ (.head _))))), List.forall_mem_cons.mpr ⟨.tail _ (.tail _ (.tail _ (.tail _ (.tail _ (.tail _ (.tail _ (.head _))))))), List.forall_mem_cons.mpr ⟨.tail _ (.head _), List.forall_mem_cons.mpr ⟨.tail _ (.tail _ (.tail _ (.tail _ (.tail _ (.tail _ (.tail _ (.tail _ (.head _)))))))), List.forall_mem_cons.mpr ⟨.tail _ (.tail _ (.tail _ (.tail _ (.tail _ (.tail _ (.tail _ (.tail _ (.tail _ (.tail _ (.tail _ (.tail _ (.head _)))))))))))), List.forall_mem_cons.mpr ⟨.tail _ (.tail _ (.tail _ (.tail _ (.tail _ (.tail _ (.tail _ (.tail _ (.tail _ (.tail _ (.tail _ (.tail _ (.tail _ (.head _))))))))))))), List.forall_mem_cons.mpr ⟨.tail _ (.tail _ (.tail _ (.tail _ (.tail _ (.tail _ (.tail _ (.tail _ (.tail _ (.tail _ (.tail _ (.tail _ (.tail _ (.tail _ (.head _)))))))))))))), List.forall_mem_cons.mpr ⟨.tail _ (.tail _ (.tail _ (.tail _ (.tail _ (.tail _ (.tail _ (.tail _ (.tail _ (.head _))))))))), List.forall_mem_cons.mpr ⟨.tail _ (.tail _ (.tail _ (.tail _ (.tail _ (.tail _ (.tail _ (.tail _ (.tail _ (.tail _ (.head _)))))))))), List.forall_mem_cons.mpr ⟨.tail _ (.tail _ (.tail _ (.tail _ (.tail _ (.tail _ (.tail _ (.tail _ (.tail _ (.tail _ (.tail _ (.head _))))))))))), List.forall_mem_cons.mpr ⟨.tail _ (.tail _ (.tail _ (.tail _ (.tail _ (.tail _ (.tail _ (.tail _ (.tail _ (.tail _ (.tail _ (.tail _ (.tail _ (.tail _ (.tail _ (.tail _ (.tail _ (.tail _ (.tail _ (.head _))))))))))))))))))), List.forall_mem_cons.mpr ⟨.tail _ (.tail _ (.tail _ (.tail _ (.tail _ (.tail _ (.tail _ (.tail _ (.tail _ (.tail _ (.tail _ (.tail _ (.tail _ (.tail _ (.tail _ (.tail _ (.tail _ (.tail _ (.tail _ (.tail _ (.head _)))))))))))))))))))), List.forall_mem_cons.mpr ⟨.tail _ (.tail _ (.tail _ (.tail _ (.tail _ (.tail _ (.tail _ (.tail _ (.tail _ (.tail _ (.tail _ (.tail _ (.tail _ (.tail _ (.tail _ (.tail _ (.tail _ (.tail _ (.tail _ (.tail _ (.tail _ (.head _))))))))))))))))))))), List.forall_mem_cons.mpr ⟨.tail _ (.tail _ (.tail _ (.tail _ (.head _)))), List.forall_mem_cons.mpr ⟨.tail _ (.tail _ (.tail _ (.tail _ (.tail _ (.tail _ (.tail _ (.tail _ (.tail _ (.tail _ (.tail _ (.tail _ (.tail _ (.tail _ (.tail _ (.head _))))))))))))))), List.forall_mem_cons.mpr ⟨.tail _ (.tail _ (.tail _ (.tail _ (.tail _ (.tail _ (.tail _ (.tail _ (.tail _ (.tail _ (.tail _ (.tail _ (.tail _ (.tail _ (.tail _ (.tail _ (.head _)))))))))))))))), List.forall_mem_cons.mpr ⟨.tail _ (.tail _ (.tail _ (.tail _ (.tail _ (.tail _ (.tail _ (.tail _ (.tail _ (.tail _ (.tail _ (.tail _ (.tail _ (.tail _ (.tail _ (.tail _ (.tail _ (.head _))))))))))))))))), List.forall_mem_cons.mpr ⟨.tail _ (.tail _ (.tail _ (.tail _ (.tail _ (.tail _ (.tail _ (.tail _ (.tail _ (.tail _ (.tail _ (.tail _ (.tail _ (.tail _ (.tail _ (.tail _ (.tail _ (.tail _ (.head _)))))))))))))))))), fun _ hp => .tail _ (.tail _ (.tail _ (.tail _ (.tail _ (.tail _ (.tail _ (.tail _ (.tail _ (.tail _ (.tail _ (.tail _ (.tail _ (.tail _ (.tail _ (.tail _ (.tail _ (.tail _ (.tail _ (.tail _ (.tail _ (.tail _ (hp))))))))))))))))))))))⟩⟩⟩⟩⟩⟩⟩⟩⟩⟩⟩⟩⟩⟩⟩⟩⟩⟩⟩⟩
theorem perm_i {M N : Mem} {ii RA x0 x1 ma sg e0 e1 lm za om op o i : Addr × Obj} {own : List (Addr × Obj)} : ∀ p ∈ ii :: RA :: x0 :: x1 :: ma :: M.led (N.led (sg :: e0 :: e1 :: lm :: za :: om :: op :: own)), p ∈ o :: i :: RA :: x0 :: x1 :: ma :: M.led (N.led (za :: om :: op :: ii :: sg :: e0 :: e1 :: lm :: own)) :=
  List.forall_mem_cons.mpr ⟨.tail _ (.tail _ (.tail _ (.tail _ (.tail _ (.tail _ (.tail _ (.tail _ (.tail _ (.tail _ (.tail _ (.tail _ (.tail _ (.tail _ (.tail _ (.head _))))))))))))))), List.forall_mem_cons.mpr ⟨.tail _ (.tail _ (.head _)), List.forall_mem_cons.mpr ⟨.tail _ (.tail _ (.tail _ (.head _))), List.forall_mem_cons.mpr ⟨.tail _ (.tail _ (.tail _ (.tail _ (.head _)))), List.forall_mem_cons.mpr ⟨.tail _ (.tail _ (.tail _ (.tail _ (.tail _ (.head _))))), List.forall_mem_cons.mpr ⟨.tail _ (.tail _ (.tail _ (.tail _ (.tail _ (.tail _ (.head _)))))), List.forall_mem_cons.mpr ⟨.tail _ (.tail _ (.tail _ (.tail _ (.tail _ (.tail _ (.tail _ (.head _))))))), List.forall_mem_cons.mpr ⟨.tail _ (.tail _ (.tail _ (.tail _ (.tail _ (.tail _ (.tail _ (.tail _ (.head _)))))))), List.forall_mem_cons.mpr ⟨.tail _ (.tail _ (.tail _ (.tail _ (.tail _ (.tail _ (.tail _ (.tail _ (.tail _ (.head _))))))))), List.forall_mem_cons.mpr ⟨.tail _ (.tail _ (.tail _ (.tail _ (.tail _ (.tail _ (.tail _ (.tail _ (.tail _ (.tail _ (.head _)))))))))), List.forall_mem_cons.mpr ⟨.tail _ (.tail _ (.tail _ (.tail _ (.tail _ (.tail _ (.tail _ (.tail _ (.tail _ (.tail _ (.tail _ (.head _))))))))))), List.forall_mem_cons.mpr ⟨.tail _ (.tail _ (.tail _ (.tail _ (.tail _ (.tail _ (.tail _ (.tail _ (.tail _ (.tail _ (.tail _ (.tail _ (.tail _ (.tail _ (.tail _ (.tail _ (.head _)))))))))))))))), List.forall_mem_cons.mpr ⟨.tail _ (.tail _ (.tail _ (.tail _ (.tail _ (.tail _ (.tail _ (.tail _ (.tail _ (.tail _ (.tail _ (.tail _ (.tail _ (.tail _ (.tail _ (.tail _ (.tail _ (.head _))))))))))))))))), List.forall_mem_cons.mpr ⟨.tail _ (.tail _ (.tail _ (.tail _ (.tail _ (.tail _ (.tail _ (.tail _ (.tail _ (.tail _ (.tail _ (.tail _ (.tail _ (.tail _ (.tail _ (.tail _ (.tail _ (.tail _ (.head _)))))))))))))))))), List.forall_mem_cons.mpr ⟨.tail _ (.tail _ (.tail _ (.tail _ (.tail _ (.tail _ (.tail _ (.tail _ (.tail _ (.tail _ (.tail _ (.tail _ (.tail _ (.tail _ (.tail _ (.tail _ (.tail _ (.tail _ (.tail _ (.head _))))))))))))))))))), List.forall_mem_cons.mpr ⟨.tail _ (.tail _ (.tail _ (.tail _ (.tail _ (.tail _ (.tail _ (.tail _ (.tail _ (.tail _ (.tail _ (.tail _ (.head _)))))))))))), List.forall_mem_cons.mpr ⟨.tail _ (.tail _ (.tail _ (.tail _ (.tail _ (.tail _ (.tail _ (.tail _ (.tail _ (.tail _ (.tail _ (.tail _ (.tail _ (.head _))))))))))))), List.forall_mem_cons.mpr ⟨.tail _ (.tail _ (.tail _ (.tail _ (.tail _ (.tail _ (.tail _ (.tail _ (.tail _ (.tail _ (.tail _ (.tail _ (.tail _ (.tail _ (.head _)))))))))))))), fun _ hp => .tail _ (.tail _ (.tail _ (.tail _ (.tail _ (.tail _ (.tail _ (.tail _ (.tail _ (.tail _ (.tail _ (.tail _ (.tail _ (.tail _ (.tail _ (.tail _ (.tail _ (.tail _ (.tail _ (.tail _ (hp))))))))))))))))))))⟩⟩⟩⟩⟩⟩⟩⟩⟩⟩⟩⟩⟩⟩⟩⟩⟩⟩
theorem off_iter {h₀ h : Heap} {L I RA a0 a1 MA SG s0 s1 LM ZA aM aP : Addr} {M N : Mem} {oI oM oP : Obj} {w0 w1 ss0 ss1 zz : List Value} {t1 t2 : Int} {kR c0 c1 kM ng i0 i1 kL kz : Nat} {u1 u2 : Tok} {own : List (Addr × Obj)}
    (H : News h₀ L h ((I, oI) :: (RA, lstO [.ref a0, .ref a1] kR) :: (a0, lstO w0 c0) :: (a1, lstO w1 c1) :: (MA, lstO [.ref M.x, .ref N.x] kM) :: M.led (N.led ((SG, lstO [.ref s0, .ref s1, .none] ng) :: (s0, lstO ss0 i0) :: (s1, lstO ss1 i1) :: (LM, lstO [.int t1 u1, .int t2 u2] kL) :: (ZA, lstO zz kz) :: (aM, oM) :: (aP, oP) :: own))))
    (hI : tagO oI = 2) (hM : tagO oM = 1) (hP : tagO oP = 1) (ho : ∀ p ∈ own, tagO p.2 ≠ 2) (g0 : tagV w0 = 0) (g1 : tagV w1 = 0) (g2 : tagV ss0 = 0) (g3 : tagV ss1 = 0) (g4 : tagV zz = 0) :
    ∀ p ∈ (RA, lstO [.ref a0, .ref a1] kR) :: (a0, lstO w0 c0) :: (a1, lstO w1 c1) :: (MA, lstO [.ref M.x, .ref N.x] kM) :: M.led (N.led ((SG, lstO [.ref s0, .ref s1, .none] ng) :: (s0, lstO ss0 i0) :: (s1, lstO ss1 i1) :: (LM, lstO [.int t1 u1, .int t2 u2] kL) :: (ZA, lstO zz kz) :: (aM, oM) :: (aP, oP) :: own)), @Ne Nat p.1 I := by
  intro p hp
  refine ne_tag H (o1 := p.2) (.tail _ hp) (.head _) ?_
  rw [hI]
  simp only [List.mem_cons] at hp
  rcases hp with h | h | h | h | h | h | h | h | h | h | h | h | h | h | h | h | h | h
  · rw [h, tag_list]; exact fun z => by cases z
  · rw [h, tag_list, g0]; decide
  · rw [h, tag_list, g1]; decide
  · rw [h, tag_list]; exact fun z => by cases z
  · rw [h]; exact fun z => by cases z
  · rw [h]; exact fun z => by cases z
  · rw [h]; exact fun z => by cases z
  · rw [h]; exact fun z => by cases z
  · rw [h]; exact fun z => by cases z
  · rw [h]; exact fun z => by cases z
  · rw [h, tag_list]; exact fun z => by cases z
  · rw [h, tag_list, g2]; decide
  · rw [h, tag_list, g3]; decide
  · rw [h, tag_list]; exact fun z => by cases z
  · rw [h, tag_list, g4]; decide
  · rw [h, hM]; decide
  · rw [h, hP]; decide
  · exact ho p h

/-- the loop's invariant: of the frame's names and of the ledger -/
def InvL (L MA RA LM SG s0 s1 l : Addr) (M0 M1 : Mem) (kM : Nat) (ss0 ss1 : List Value) (i0 i1 ng : Nat) (l0 l1 : Int) (u0 u1 : Tok) (kL : Nat) (ZA : Addr) (kz : Nat) (oM oP : Obj) (own : List (Addr × Obj)) (m : Str → Option Value) (news : List (Addr × Obj)) : Prop :=
  ∃ (d0 d1 : List UInt8) (r0 r1 : Addr) (w0 w1 : List Value) (kR c0 c1 : Nat) (fm : Str → Option Value), m = (fun y : Str => if y = "rows" then some (.ref RA) else if y = "memories" then some (.ref MA) else if y = "segments" then some (.ref SG) else if y = "limits" then some (.ref LM) else if y = "script" then some (.ref l) else fm y) ∧ news = ((RA, lstO [.ref r0, .ref r1] kR) :: (r0, lstO w0 c0) :: (r1, lstO w1 c1) :: (MA, lstO [.ref M0.x, .ref M1.x] kM) :: ({ M0 with d := d0 } : Mem).led (({ M1 with d := d1 } : Mem).led ((SG, lstO [.ref s0, .ref s1, .none] ng) :: (s0, lstO ss0 i0) :: (s1, lstO ss1 i1) :: (LM, lstO [.int l0 u0, .int l1 u1] kL) :: (ZA, lstO [M0.most, M1.most] kz) :: (L + 1 + 1 + 1 + 1 + 1 + 1, oM) :: (L + 1 + 1 + 1, oP) :: own))) ∧ IntsAre w0 (octInts d0) ∧ IntsAre w1 (octInts d1) ∧ d0.length ≤ 48 ∧ d1.length ≤ 48
theorem Mem.Ok.data {M : Mem} (ok : M.Ok) {d : List UInt8} (h : d.length ≤ 48) : ({ M with d := d } : Mem).Ok := ⟨ok.p0, ok.p1, Nat.le_trans h (by decide), ok.pg, ok.mo⟩

theorem two_of {wh : Int} (h : 0 ≤ wh ∧ wh ≤ 1) : wh = 0 ∨ wh = 1 := by omega
set_option maxHeartbeats 1000000 in
theorem turn_all (w : World) (mean : ExcName → Option Value) (mg mb : Str → Option Value) (h₀ : Heap) (L fa l : Addr) (cd : Value) (vs : List Value) (ns : List Int) (s : Shared) (MA RA LM SG s0 s1 : Addr) (M0 M1 : Mem) (kM : Nat) (ss0 ss1 : List Value) (i0 i1 ng : Nat) (l0 l1 : Int) (u0 u1 : Tok) (kL : Nat) (ZA : Addr) (kz : Nat) (oM oP : Obj) (own : List (Addr × Obj)) (g0 g1 : List UInt8) (pg : Int) (tp : Tok) (i : Nat) (I : Addr) (oI : Obj) (t : Tok) (m : Str → Option Value) (news : List (Addr × Obj)) :
    ∀ (_B : Below callerA h₀ [] h₀) (_X : (MineH.top.heap_1 w.params).In h₀) (_T : Top MineH.top.view_1 (looseW MineH.top.view_1 []) mean mg mb h₀) (_hl : h₀.IsList l vs.toArray) (_hi : IntsAre vs ns) (_hn : ns.length ≤ 63) (_ok0 : M0.Ok) (_ok1 : M1.Ok) (_p0 : M0.page = pg) (_p1 : M1.page = pg) (_pg : 3 ≤ pg ∧ pg ≤ 8) (_l0 : l0 ≤ 5) (_l1 : l1 ≤ 5) (_m0 : LimIs M0.most M0.pages l0) (_m1 : LimIs M1.most M1.pages l1) (_nb : @Ne Nat M0.b M1.b) (_ma : @Ne Nat MA RA) (_q0 : IntsAre ss0 (octInts g0)) (_q1 : IntsAre ss1 (octInts g1)) (_z0 : g0.length ≤ 9) (_z1 : g1.length ≤ 9) (_tz : tagV [M0.most, M1.most] = 0) (_dM : oM.data = .cell (some (.ref ZA))) (_dP : oP.data = .cell (some (.int pg tp))) (_own : ∀ p ∈ own, tagO p.2 ≠ 2 ∧ tagO p.2 ≠ 3 ∧ tagO p.2 ≠ 4) (_i : i < 15) (_inv : InvL L MA RA LM SG s0 s1 l M0 M1 kM ss0 ss1 i0 i1 ng l0 l1 u0 u1 kL ZA kz oM oP own m news) (_F : Fr h₀ L s.heap (fun z => if z = "k" then some (.int (i : Int) t) else m z)) (_N : News h₀ L s.heap ((I, oI) :: news)) (_oI : ∃ d, oI.data = .fields d),
    wpC (model PySem.Challenge.rw_nm0116_01.row.prog w) (callerA.deeper (lawE L fa cd)) (execs forB (lawE L fa cd))
      (fun f s₃ => f = .next ∧ ∃ m' news' h' tk', s₃ = { s with heap := h', toks := tk' } ∧ Fr h₀ L h' m' ∧ News h₀ L h' ((I, oI) :: news') ∧ (∀ p ∈ news', @Ne Nat p.1 I) ∧ InvL L MA RA LM SG s0 s1 l M0 M1 kM ss0 ss1 i0 i1 ng l0 l1 u0 u1 kL ZA kz oM oP own m' news') (fun _ _ => False) s := by
  intro B X T hl hi hn ok0 ok1 p0 p1 hpg lt0 lt1 hlm0 hlm1 hnb hma q0 q1 z0 z1 htz dM dP hown hi15 hinv F N hoI
  have hoI := tag_fields hoI
  have hoM : tagO oM = 1 := tag_cell dM
  have hoP : tagO oP = 1 := tag_cell dP
  have hown2 : ∀ p ∈ own, tagO p.2 ≠ 3 ∧ tagO p.2 ≠ 4 := fun p hp => (hown p hp).2
  have hown3 : ∀ p ∈ own, tagO p.2 ≠ 2 := fun p hp => (hown p hp).1
  obtain ⟨d0, d1, r0, r1, w0, w1, kR, c0, c1, fm, rfl, rfl, hw0, hw1, hd0, hd1⟩ := hinv
  refine turn_1 w mean mg mb h₀ L fa l cd vs ns s _ i t MA RA LM SG _ fm B X T hl hi hn hi15 F N ?_
  unfold T1K
  intro dg nu le op wh td tn tl to' tw h1 k1 hop hwh F1 N1
  have hcase := two_of hwh
  rcases hcase with e | e
  · subst e
    refine turn_mid w mean mg mb h₀ L fa l cd vs ns _ _ fm ({ M0 with d := d0 } : Mem) ({ M1 with d := d1 } : Mem) [.ref M0.x, .ref M1.x] [.ref r0, .ref r1] [.int l0 u0, .int l1 u1] kM kR kL MA RA LM SG s0 s1 r0 r1 w0 w1 c0 c1 ss0 ss1 i0 i1 ng I oI oP oM ZA [M0.most, M1.most] kz pg tp own i t dg nu le op 0 td tn tl to' tw g0 g1 l0 u0 B X T hl hi hn hi15 (ok0.data hd0) (ok1.data hd1) hop (by decide) rfl rfl rfl rfl rfl hw0 hw1 q0 q1 z0 z1 hd0 hd1 hpg p0 lt0 hlm0 (fun z => hnb z.symm) rfl rfl hma rfl htz hoI hoM dP hown2 F1 N1 ?_
    intro sv my tm xo tx D ys nD be tb hv O I' D' wd ts ts' v v' ys' n' d' h9 k9 hsv hy9 hl9 F9 N9
    have N9' : News h₀ L h9 ((I', tupO [.str wd ts', v']) :: (D', lstO ys' n') :: (O, tupO [.str wd ts, v]) :: (D, lstO ys nD) :: (I, oI) :: (RA, lstO [.ref D', .ref r1] kR) :: (r0, lstO w0 c0) :: (r1, lstO w1 c1) :: (MA, lstO [.ref M0.x, .ref M1.x] kM) :: (({ M0 with d := d' } : Mem)).led ((({ M1 with d := d1 } : Mem)).led ((SG, lstO [.ref s0, .ref s1, .none] ng) :: (s0, lstO ss0 i0) :: (s1, lstO ss1 i1) :: (LM, lstO [.int l0 u0, .int l1 u1] kL) :: (ZA, lstO [M0.most, M1.most] kz) :: (L + 1 + 1 + 1 + 1 + 1 + 1, oM) :: (L + 1 + 1 + 1, oP) :: own))) := N9
    refine turn_10 w mean mg mb h₀ L fa l cd vs ns _ _ ({ M0 with d := d' } : Mem) ({ M1 with d := d1 } : Mem) kR kM kz n' c1 MA RA LM SG r0 D' r1 ZA ys' w1 oP oM pg tp ((I, oI) :: (SG, lstO [.ref s0, .ref s1, .none] ng) :: (s0, lstO ss0 i0) :: (s1, lstO ss1 i1) :: (LM, lstO [.int l0 u0, .int l1 u1] kL) :: own) i t dg nu le op 0 td tn tl to' tw sv my tm xo tx D be tb hv O wd ts ts' v v' I' D' fm B X T hl hi hn (ok0.data hl9) (ok1.data hd1) hy9 hw1 p0 p1 hsv dM dP F9 (News.perm N9' perm_t0) ?_
    intro h10 k10 F10 N10
    have N11 := News.perm N10 (perm_i (own := own) (RA := (RA, lstO [.ref D', .ref r1] kR)))
    exact ⟨rfl, _, _, h10, k10, rfl, frPin5 F10 rfl rfl rfl rfl rfl, N11, off_iter N11 hoI hoM hoP hown3 (tag_ints hy9) (tag_ints hw1) (tag_ints q0) (tag_ints q1) htz, d', d1, D', r1, ys', w1, kR, n', c1, _, rfl, rfl, hy9, hw1, hl9, hd1⟩
  · subst e
    refine turn_mid w mean mg mb h₀ L fa l cd vs ns _ _ fm ({ M1 with d := d1 } : Mem) ({ M0 with d := d0 } : Mem) [.ref M0.x, .ref M1.x] [.ref r0, .ref r1] [.int l0 u0, .int l1 u1] kM kR kL MA RA LM SG s0 s1 r1 r0 w1 w0 c1 c0 ss0 ss1 i0 i1 ng I oI oP oM ZA [M0.most, M1.most] kz pg tp own i t dg nu le op 1 td tn tl to' tw g0 g1 l1 u1 B X T hl hi hn hi15 (ok1.data hd1) (ok0.data hd0) hop (by decide) rfl rfl rfl rfl rfl hw1 hw0 q0 q1 z0 z1 hd1 hd0 hpg p1 lt1 hlm1 hnb rfl rfl hma rfl htz hoI hoM dP hown2 F1 (News.perm N1 perm_w1) ?_
    intro sv my tm xo tx D ys nD be tb hv O I' D' wd ts ts' v v' ys' n' d' h9 k9 hsv hy9 hl9 F9 N9
    have N9' : News h₀ L h9 ((I', tupO [.str wd ts', v']) :: (D', lstO ys' n') :: (O, tupO [.str wd ts, v]) :: (D, lstO ys nD) :: (I, oI) :: (RA, lstO [.ref r0, .ref D'] kR) :: (r1, lstO w1 c1) :: (r0, lstO w0 c0) :: (MA, lstO [.ref M0.x, .ref M1.x] kM) :: (({ M1 with d := d' } : Mem)).led ((({ M0 with d := d0 } : Mem)).led ((SG, lstO [.ref s0, .ref s1, .none] ng) :: (s0, lstO ss0 i0) :: (s1, lstO ss1 i1) :: (LM, lstO [.int l0 u0, .int l1 u1] kL) :: (ZA, lstO [M0.most, M1.most] kz) :: (L + 1 + 1 + 1 + 1 + 1 + 1, oM) :: (L + 1 + 1 + 1, oP) :: own))) := N9
    refine turn_10 w mean mg mb h₀ L fa l cd vs ns _ _ ({ M0 with d := d0 } : Mem) ({ M1 with d := d' } : Mem) kR kM kz c0 n' MA RA LM SG r1 r0 D' ZA w0 ys' oP oM pg tp ((I, oI) :: (SG, lstO [.ref s0, .ref s1, .none] ng) :: (s0, lstO ss0 i0) :: (s1, lstO ss1 i1) :: (LM, lstO [.int l0 u0, .int l1 u1] kL) :: own) i t dg nu le op 1 td tn tl to' tw sv my tm xo tx D be tb hv O wd ts ts' v v' I' D' fm B X T hl hi hn (ok0.data hd0) (ok1.data hl9) hw0 hy9 p0 p1 hsv dM dP F9 (News.perm N9' perm_t1) ?_
    intro h10 k10 F10 N10
    have N11 := News.perm N10 (perm_i (own := own) (RA := (RA, lstO [.ref r0, .ref D'] kR)))
    exact ⟨rfl, _, _, h10, k10, rfl, frPin5 F10 rfl rfl rfl rfl rfl, N11, off_iter N11 hoI hoM hoP hown3 (tag_ints hw0) (tag_ints hy9) (tag_ints q0) (tag_ints q1) htz, d0, d', r0, D', w0, ys', kR, c0, n', _, rfl, rfl, hw0, hy9, hd0, hl9⟩
end Mine
end
section
open PySem PySem.W PyProof.Rows PySem.Calls PyProof.Rows.LCg
set_option Elab.async false
namespace Mine
theorem plain_Pro8 : True := by
  w_top off
  k_with_none
  trivial
set_option maxRecDepth 100000

set_option maxHeartbeats 1000000 in
theorem law_p8 (w : World) (mean : ExcName → Option Value) (mg mb : Str → Option Value) (h₀ : Heap) (L fa l : Addr) (cd : Value) (vs : List Value) (ns : List Int) (s : Shared) (Q : Flow → Shared → Prop) (MA RA LM SG s0 s1 : Addr) (M0 M1 : Mem) (kM : Nat) (ss0 ss1 : List Value) (i0 i1 ng : Nat) (l0 l1 : Int) (u0 u1 : Tok) (kL : Nat) (ZA : Addr) (kz : Nat) (oM oP : Obj) (own : List (Addr × Obj)) (g0 g1 : List UInt8) (pg : Int) (tp : Tok) (m : Str → Option Value) (news : List (Addr × Obj)) :
    ∀ (_B : Below callerA h₀ [] h₀) (_X : (MineH.top.heap_1 w.params).In h₀) (_T : Top MineH.top.view_1 (looseW MineH.top.view_1 []) mean mg mb h₀) (_hl : h₀.IsList l vs.toArray) (_hi : IntsAre vs ns) (_hn : ns.length ≤ 63) (_ok0 : M0.Ok) (_ok1 : M1.Ok) (_p0 : M0.page = pg) (_p1 : M1.page = pg) (_pg : 3 ≤ pg ∧ pg ≤ 8) (_l0 : l0 ≤ 5) (_l1 : l1 ≤ 5) (_m0 : LimIs M0.most M0.pages l0) (_m1 : LimIs M1.most M1.pages l1) (_nb : @Ne Nat M0.b M1.b) (_ma : @Ne Nat MA RA) (_q0 : IntsAre ss0 (octInts g0)) (_q1 : IntsAre ss1 (octInts g1)) (_z0 : g0.length ≤ 9) (_z1 : g1.length ≤ 9) (_tz : tagV [M0.most, M1.most] = 0) (_dM : oM.data = .cell (some (.ref ZA))) (_dP : oP.data = .cell (some (.int pg tp))) (_own : ∀ p ∈ own, tagO p.2 ≠ 2 ∧ tagO p.2 ≠ 3 ∧ tagO p.2 ≠ 4) (_inv : InvL L MA RA LM SG s0 s1 l M0 M1 kM ss0 ss1 i0 i1 ng l0 l1 u0 u1 kL ZA kz oM oP own m news) (_F : Fr h₀ L s.heap m) (_N : News h₀ L s.heap news)
    (_k : ∀ (h' : Heap) (tk : Nat), (∀ b o, h₀.get? b = some o → h'.get? b = some o) → Q (.ret (.bool true)) { s with heap := h', toks := tk }),
    wpC (model PySem.Challenge.rw_nm0116_01.row.prog w) (callerA.deeper (lawE L fa cd)) (execs (lawB.drop 15) (lawE L fa cd)) Q (fun _ _ => False) s := by
  k_fill
  intro B X T hl hi hn ok0 ok1 p0 p1 hpg lt0 lt1 hlm0 hlm1 hnb hma q0 q1 z0 z1 htz dM dP hown hinv F N k
  have hT : ∀ (i : Nat) (m : Str → Option Value) (news : List (Addr × Obj)) (I : Addr) (oI : Obj) (h : Heap) (tk : Nat) (t : Tok), i < 15 → InvL L MA RA LM SG s0 s1 l M0 M1 kM ss0 ss1 i0 i1 ng l0 l1 u0 u1 kL ZA kz oM oP own m news → Fr h₀ L h (fun z => if z = "k" then some (.int (i : Int) t) else m z) → News h₀ L h ((I, oI) :: news) → (∀ p ∈ news, @Ne Nat p.1 I) → (∃ d, oI.data = .fields d) →
      wpC (model PySem.Challenge.rw_nm0116_01.row.prog w) (callerA.deeper (lawE L fa cd)) (execs forB (lawE L fa cd)) (fun f s₃ => f = .next ∧ ∃ m' news' h' tk', s₃ = { s with heap := h', toks := tk' } ∧ Fr h₀ L h' m' ∧ News h₀ L h' ((I, oI) :: news') ∧ (∀ p ∈ news', @Ne Nat p.1 I) ∧ InvL L MA RA LM SG s0 s1 l M0 M1 kM ss0 ss1 i0 i1 ng l0 l1 u0 u1 kL ZA kz oM oP own m' news') (fun _ _ => False) { s with heap := h, toks := tk } :=
    fun i m news I oI h tk t hi15 inv F N _ hoI => turn_all w mean mg mb h₀ L fa l cd vs ns { s with heap := h, toks := tk } MA RA LM SG s0 s1 M0 M1 kM ss0 ss1 i0 i1 ng l0 l1 u0 u1 kL ZA kz oM oP own g0 g1 pg tp i I oI t m news B X T hl hi hn ok0 ok1 p0 p1 hpg lt0 lt1 hlm0 hlm1 hnb hma q0 q1 z0 z1 htz dM dP hown hi15 inv F N hoI
  unfold lawE at *
  conv =>
    enter [3, 1]
    whnf
  generalize hS : lawS = sc at *
  conv at hS =>
    lhs
    whnf
  subst hS
  refine wpC_execs_cons ?_
  k_dflt (refine wpC_For_range (h₀ := h₀) (L := L) (n := 15) (fun _ m news => InvL L MA RA LM SG s0 s1 l M0 M1 kM ss0 ss1 i0 i1 ng l0 l1 u0 u1 kL ZA kz oM oP own m news) rfl rfl rfl rfl ?hr hT ?ha)
  case hr =>
    iterate 7 walk1
    exact ⟨_, _, _, _, _, _, _, _, rfl, rfl, by assumption, by decide, by decide, by assumption, by assumption, hinv⟩
  case ha =>
    intro m2 news2 h2 k2 inv2 F2 N2
    refine wpC_execs_consA ?_
    k_steps
    exact k _ _ F2.keep
end Mine
end
section
open PySem PySem.W PyProof.Rows PySem.Calls PyProof.Rows.LCg
set_option Elab.async false
namespace Mine
set_option maxRecDepth 100000
theorem ne_two {h₀ h : Heap} {L X Y a b c d : Addr} {all : List (Addr × Obj)} {k k' : Nat} {oa oc : Obj} (N : News h₀ L h all) (h1 : (X, lstO [.ref a, .ref b] k) ∈ all) (h2 : (Y, lstO [.ref c, .ref d] k') ∈ all) (h3 : (a, oa) ∈ all) (h4 : (c, oc) ∈ all) (ht : tagO oa ≠ tagO oc) : @Ne Nat X Y := fun e => by
  have p := (N _ h1).1
  have q := (N _ h2).1
  dsimp only at p q
  rw [show X = Y from e, q] at p
  have z := congrArg (fun o : Option Obj => match o with | some o => (match o.data with | .seq xs _ => xs.toList | _ => []) | none => []) p
  dsimp only at z
  have z1 : (Value.ref c) = (Value.ref a) := (List.cons.inj z).1
  have z2 : c = a := by injection z1
  exact ne_tag N h3 h4 ht z2.symm
theorem lim_le {v : Value} {ps l : Int} (h : LimIs v ps l) (hp : ps ≤ 5) : l ≤ 5 := by
  rcases h with ⟨_, rfl⟩ | ⟨k, t, _, rfl⟩
  · exact hp
  · split <;> omega
theorem most_in {v : Value} (h : MostV v) : handedIn v = true := by rcases h with rfl | ⟨_, _, rfl⟩ <;> rfl
theorem most_tag {v u : Value} (h : MostV v) : tagV [v, u] = 0 := by rcases h with rfl | ⟨_, _, rfl⟩ <;> rfl
theorem mul_small {a b : Int} {n : Int} (h0 : 0 ≤ a) (h1 : a ≤ n) (h2 : 3 ≤ b) (h3 : b ≤ 8) (hn : n ≤ 5) : 0 ≤ a * b ∧ a * b ≤ 40 := by
  refine ⟨Int.mul_nonneg h0 (by omega), ?_⟩
  calc a * b ≤ 5 * b := Int.mul_le_mul_of_nonneg_right (by omega) (by omega)
    _ ≤ 40 := by omega
theorem ok_of {M : Mem} {pg ps : Int} (h1 : M.page = pg) (h2 : M.pages = ps) (a : 3 ≤ pg ∧ pg ≤ 8) (b : 2 ≤ ps ∧ ps ≤ 5) (c : M.d.length ≤ 48) (mo : MostV M.most) : M.Ok := ⟨by omega, by omega, by omega, by omega, mo⟩
theorem rep_len {x : Int} (h : 0 ≤ x ∧ x ≤ 40) : (List.replicate x.toNat (0 : UInt8)).length ≤ 48 := by rw [List.length_replicate]; omega
theorem mul_ok {a b : Int} (h0 : 0 ≤ a) (h1 : a ≤ 5) : PySem.IntMulOk a b := PySem.IntMulOk.of_left (PySem.intBits_le_64 (Int.lt_of_lt_of_le (by decide) h0) (Int.lt_of_le_of_lt h1 (by decide)))
theorem perm_join {M N : Mem} {ra r0 r1 ma sz dz sg e0 e1 lm za la c7 c6 c5 c4 c3 c2 c1 : Addr × Obj} : ∀ p ∈ ra :: r0 :: r1 :: ma :: M.led (N.led (sg :: e0 :: e1 :: lm :: za :: c6 :: c3 :: [sz, dz, la, c7, c5, c4, c2, c1])), p ∈ ra :: r1 :: r0 :: ma :: N.led (M.led (sz :: dz :: sg :: e0 :: e1 :: lm :: [za, la, c7, c6, c5, c4, c3, c2, c1])) :=
  List.forall_mem_cons.mpr ⟨.head _, List.forall_mem_cons.mpr ⟨.tail _ (.tail _ (.head _)), List.forall_mem_cons.mpr ⟨.tail _ (.head _), List.forall_mem_cons.mpr ⟨.tail _ (.tail _ (.tail _ (.head _))), List.forall_mem_cons.mpr ⟨.tail _ (.tail _ (.tail _ (.tail _ (.tail _ (.tail _ (.tail _ (.head _))))))), List.forall_mem_cons.mpr ⟨.tail _ (.tail _ (.tail _ (.tail _ (.tail _ (.tail _ (.tail _ (.tail _ (.head _)))))))), List.forall_mem_cons.mpr ⟨.tail _ (.tail _ (.tail _ (.tail _ (.tail _ (.tail _ (.tail _ (.tail _ (.tail _ (.head _))))))))), List.forall_mem_cons.mpr ⟨.tail _ (.tail _ (.tail _ (.tail _ (.head _)))), List.forall_mem_cons.mpr ⟨.tail _ (.tail _ (.tail _ (.tail _ (.tail _ (.head _))))), List.forall_mem_cons.mpr ⟨.tail _ (.tail _ (.tail _ (.tail _ (.tail _ (.tail _ (.head _)))))), List.forall_mem_cons.mpr ⟨.tail _ (.tail _ (.tail _ (.tail _ (.tail _ (.tail _ (.tail _ (.tail _ (.tail _ (.tail _ (.tail _ (.tail _ (.head _)))))))))))), List.forall_mem_cons.mpr ⟨.tail _ (.tail _ (.tail _ (.tail _ (.tail _ (.tail _ (.tail _ (.tail _ (.tail _ (.tail _ (.tail _ (.tail _ (.tail _ (.head _))))))))))))), List.forall_mem_cons.mpr ⟨.tail _ (.tail _ (.tail _ (.tail _ (.tail _ (.tail _ (.tail _ (.tail _ (.tail _ (.tail _ (.tail _ (.tail _ (.tail _ (.tail _ (.head _)))))))))))))), List.forall_mem_cons.mpr ⟨.tail _ (.tail _ (.tail _ (.tail _ (.tail _ (.tail _ (.tail _ (.tail _ (.tail _ (.tail _ (.tail _ (.tail _ (.tail _ (.tail _ (.tail _ (.head _))))))))))))))), List.forall_mem_cons.mpr ⟨.tail _ (.tail _ (.tail _ (.tail _ (.tail _ (.tail _ (.tail _ (.tail _ (.tail _ (.tail _ (.tail _ (.tail _ (.tail _ (.tail _ (.tail _ (.tail _ (.head _)))))))))))))))), List.forall_mem_cons.mpr ⟨.tail _ (.tail _ (.tail _ (.tail _ (.tail _ (.tail _ (.tail _ (.tail _ (.tail _ (.tail _ (.tail _ (.tail _ (.tail _ (.tail _ (.tail _ (.tail _ (.tail _ (.tail _ (.tail _ (.head _))))))))))))))))))), List.forall_mem_cons.mpr ⟨.tail _ (.tail _ (.tail _ (.tail _ (.tail _ (.tail _ (.tail _ (.tail _ (.tail _ (.tail _ (.tail _ (.tail _ (.tail _ (.tail _ (.tail _ (.tail _ (.tail _ (.tail _ (.tail _ (.tail _ (.tail _ (.tail _ (.head _)))))))))))))))))))))), List.forall_mem_cons.mpr ⟨.tail _ (.tail _ (.tail _ (.tail _ (.tail _ (.tail _ (.tail _ (.tail _ (.tail _ (.tail _ (.head _)))))))))), List.forall_mem_cons.mpr ⟨.tail _ (.tail _ (.tail _ (.tail _ (.tail _ (.tail _ (.tail _ (.tail _ (.tail _ (.tail _ (.tail _ (.head _))))))))))), List.forall_mem_cons.mpr ⟨.tail _ (.tail _ (.tail _ (.tail _ (.tail _ (.tail _ (.tail _ (.tail _ (.tail _ (.tail _ (.tail _ (.tail _ (.tail _ (.tail _ (.tail _ (.tail _ (.tail _ (.head _))))))))))))))))), List.forall_mem_cons.mpr ⟨.tail _ (.tail _ (.tail _ (.tail _ (.tail _ (.tail _ (.tail _ (.tail _ (.tail _ (.tail _ (.tail _ (.tail _ (.tail _ (.tail _ (.tail _ (.tail _ (.tail _ (.tail _ (.head _)))))))))))))))))), List.forall_mem_cons.mpr ⟨.tail _ (.tail _ (.tail _ (.tail _ (.tail _ (.tail _ (.tail _ (.tail _ (.tail _ (.tail _ (.tail _ (.tail _ (.tail _ (.tail _ (.tail _ (.tail _ (.tail _ (.tail _ (.tail _ (.tail _ (.head _)))))))))))))))))))), List.forall_mem_cons.mpr ⟨.tail _ (.tail _ (.tail _ (.tail _ (.tail _ (.tail _ (.tail _ (.tail _ (.tail _ (.tail _ (.tail _ (.tail _ (.tail _ (.tail _ (.tail _ (.tail _ (.tail _ (.tail _ (.tail _ (.tail _ (.tail _ (.head _))))))))))))))))))))), List.forall_mem_cons.mpr ⟨.tail _ (.tail _ (.tail _ (.tail _ (.tail _ (.tail _ (.tail _ (.tail _ (.tail _ (.tail _ (.tail _ (.tail _ (.tail _ (.tail _ (.tail _ (.tail _ (.tail _ (.tail _ (.tail _ (.tail _ (.tail _ (.tail _ (.tail _ (.head _))))))))))))))))))))))), List.forall_mem_cons.mpr ⟨.tail _ (.tail _ (.tail _ (.tail _ (.tail _ (.tail _ (.tail _ (.tail _ (.tail _ (.tail _ (.tail _ (.tail _ (.tail _ (.tail _ (.tail _ (.tail _ (.tail _ (.tail _ (.tail _ (.tail _ (.tail _ (.tail _ (.tail _ (.tail _ (.head _)))))))))))))))))))))))), fun _ hp => nomatch hp⟩⟩⟩⟩⟩⟩⟩⟩⟩⟩⟩⟩⟩⟩⟩⟩⟩⟩⟩⟩⟩⟩⟩⟩⟩

set_option maxHeartbeats 1000000 in
theorem law_all (w : World) (mean : ExcName → Option Value) (mg mb : Str → Option Value) (h₀ : Heap) (L fa l : Addr) (cd : Value) (vs : List Value) (ns : List Int) (cells : List (Addr × Obj)) (s : Shared) (Q : Flow → Shared → Prop) :
    ∀ (_B : Below callerA h₀ [] h₀) (_X : (MineH.top.heap_1 w.params).In h₀) (_T : Top MineH.top.view_1 (looseW MineH.top.view_1 []) mean mg mb h₀) (_hl : h₀.IsList l vs.toArray) (_hi : IntsAre vs ns) (_hn : ns.length ≤ 63)
    (_F : Fr h₀ L s.heap (bindL (lawE L fa cd).kindOf [("script", .ref l)] fun _ => none)) (_N : News h₀ L s.heap cells) (_Y : CellsAre (bindC (lawE L fa cd).kindOf [("script", .ref l)] fun _ => none) (cellsFrom (L + 1) lawS.names []) cells)
    (_k : ∀ (h' : Heap) (tk : Nat), (∀ b o, h₀.get? b = some o → h'.get? b = some o) → Q (.ret (.bool true)) { s with heap := h', toks := tk }),
    wpC (model PySem.Challenge.rw_nm0116_01.row.prog w) (callerA.deeper (lawE L fa cd)) (execs lawB (lawE L fa cd)) Q (fun _ _ => False) s := by
  intro B X T hl hi hn F N Y k
  refine law_p1 w mean mg mb h₀ L fa l cd vs ns cells s Q B X T hl hi hn F N Y ?_
  unfold K1
  intro pg ps la lb ta tb tp tq va vb LA ZA n oS oM oL oQ oP o3 o2 v3 v2 t3 t2 u xS h1 k1 hdS pg0 ps0 la0 lb0 ma mb' dM dL dQ dP d3 d2 F1 N1
  refine law_p2 w mean mg mb h₀ L fa l cd vs ns _ Q pg ps la lb ta tb tp tq va vb LA ZA n oS oM oL oQ oP o3 o2 v3 v2 t3 t2 u B X T hl hi hn pg0 ps0 la0 lb0 ma mb' dM dL dQ dP d3 d2 F1 N1 ?_
  unfold K2
  intro l0 l1 u0 u1 LM nl u2 h2 k2 hl0 hl1 F2 N2
  refine law_p3 w mean mg mb h₀ L fa l cd vs ns _ Q pg ps la lb ta tb tp tq va vb LA ZA n oS oM oL oQ oP o3 o2 v3 v2 t3 t2 xS l0 l1 u0 u1 LM nl u2 B X T hl hi hn pg0 ps0 hdS dM dL dQ dP d3 d2 F2 N2 ?_
  unfold K3
  intro sz dz SG s0 s1 H1 H2 H3 H4 H5 e1 e2 e3 e4 e5 te td el de fu ss0 ss1 g0 g1 i0 i1 ng oS u3 h3 k3 hfu dS q0 q1 z0 z1 F3 N3
  refine law_p4 w mean mg mb h₀ L fa l cd vs ns _ Q pg ps la lb ta tb tp tq va vb LA ZA n oM oL oQ oP o3 o2 v3 t3 l0 l1 u0 u1 LM nl sz dz SG s0 s1 H1 H2 H3 H4 H5 e1 e2 e3 e4 e5 te td el de fu ss0 ss1 i0 i1 ng oS u3 B X T hl hi hn pg0 ps0 hfu dS dM dL dQ dP d3 F3 N3 ?_
  unfold K4
  intro h4 k4 F4 N4
  have ba := mul_small (n := 2) (b := pg) (Int.le_trans (by decide) la0.1) la0.2 pg0.1 pg0.2 (by decide)
  have bb := mul_small (n := ps) (b := pg) lb0.1 lb0.2 pg0.1 pg0.2 ps0.2
  refine law_p5 w mean mg mb h₀ L fa l cd vs ns _ Q pg ps la lb ta tb tp tq va vb LA ZA n oM oL oQ oP o3 o2 v3 t3 l0 l1 u0 u1 LM nl sz dz SG s0 s1 H1 H2 H3 H4 H5 e1 e2 e3 e4 e5 te td el de fu ss0 ss1 i0 i1 ng oS u3 B X T hl hi hn pg0 ps0 la0 lb0 hfu (most_in ma) (most_in mb') (Int.le_trans la0.2 ps0.1) ba.1 (Int.le_trans ba.2 (by decide)) lb0.2 bb.1 (Int.le_trans bb.2 (by decide)) (Int.le_trans (by decide) pg0.1) (Int.lt_of_le_of_lt pg0.2 (by decide)) dS dM dL dQ dP d3 F4 N4 ?_
  unfold K5
  intro M0 M1 MA u5 h5 k5 m00 m01 m02 m03 m10 m11 m12 m13 hnb F5 N5
  subst m00
  subst m10
  refine law_p6 w mean mg mb h₀ L fa l cd vs ns _ Q M0 M1 MA pg ps la lb ta tb tp tq LA ZA n oM oL oQ oP o3 o2 v3 t3 l0 l1 u0 u1 LM nl sz dz SG s0 s1 H1 H2 H3 H4 H5 e1 e2 e3 e4 e5 te td el de fu ss0 ss1 i0 i1 ng oS u5 B X T hl hi hn (mul_ok (Int.le_trans (by decide) la0.1) (Int.le_trans la0.2 (by decide))) (mul_ok lb0.1 (Int.le_trans lb0.2 ps0.2)) ⟨ba.1, Int.le_trans ba.2 (by decide)⟩ ⟨bb.1, Int.le_trans bb.2 (by decide)⟩ dS dM dL dQ dP d3 F5 N5 ?_
  unfold K6
  intro RA r0 r1 w0 w1 u6 h6 k6 j0 j1 F6 N6
  have hd0 : M0.d.length ≤ 48 := by rw [m03]; exact rep_len ba
  have hd1 : M1.d.length ≤ 48 := by rw [m13]; exact rep_len bb
  have i0' : IntsAre w0 (octInts M0.d) := by rw [m03, oct_zero]; exact j0
  have i1' : IntsAre w1 (octInts M1.d) := by rw [m13, oct_zero]; exact j1
  have ok0 : M0.Ok := ok_of m01 m02 pg0 ps0 hd0 ma
  have ok1 : M1.Ok := ok_of m11 m12 pg0 ps0 hd1 mb'
  refine law_p7 w mean mg mb h₀ L fa l cd vs ns _ Q M0 M1 MA RA r0 r1 w0 w1 pg ps la lb ta tb tp tq LA ZA n oM oL oQ oP o3 o2 v3 t3 l0 l1 u0 u1 LM nl sz dz SG s0 s1 H1 H2 H3 H4 H5 e1 e2 e3 e4 e5 te td el de fu ss0 ss1 i0 i1 ng oS u6 B X T hl hi hn ok0 ok1 i0' i1' m01 m11 dS dM dL dQ dP d3 F6 N6 ?_
  unfold K7
  intro h7 k7 F7 N7
  have hma : @Ne Nat MA RA := ne_two N7 (a := M0.x) (b := M1.x) (c := r0) (d := r1) (k := 2) (k' := 2) (oa := instObj 185 M0.dx) (oc := lstO w0 0) (by simp only [List.mem_cons, true_or, or_true]) (by simp only [List.mem_cons, true_or, or_true]) (by simp only [List.mem_cons, true_or, or_true]) (by simp only [List.mem_cons, true_or, or_true]) (by rw [tag_inst, tag_list, tag_ints i0']; decide)
  have hown : ∀ p ∈ [(sz, instObj 207 dz), (dz, szD H1 H2 H3 H4 H5 e1 e2 e3 e4 e5 pg ps el de tp tq te td fu), (LA, lstO [.int la ta, .int lb tb] 0), (L + 1 + 1 + 1 + 1 + 1 + 1 + 1, oS), (L + 1 + 1 + 1 + 1 + 1, oL), (L + 1 + 1 + 1 + 1, oQ), (L + 1 + 1, o3), (L + 1, o2)], tagO p.2 ≠ 2 ∧ tagO p.2 ≠ 3 ∧ tagO p.2 ≠ 4 := by
    intro p hp
    simp only [List.mem_cons, List.not_mem_nil, or_false] at hp
    rcases hp with h | h | h | h | h | h | h | h
    · rw [h]; exact ⟨fun z => (by cases z), fun z => (by cases z), fun z => (by cases z)⟩
    · rw [h]; exact ⟨fun z => (by cases z), fun z => (by cases z), fun z => (by cases z)⟩
    · rw [h, tag_list]; exact ⟨fun z => (by cases z), fun z => (by cases z), fun z => (by cases z)⟩
    · rw [h, tag_cell dS]; decide
    · rw [h, tag_cell dL]; decide
    · rw [h, tag_cell dQ]; decide
    · rw [h, tag_cell d3]; decide
    · rw [h, tag_cell d2]; decide
  refine law_p8 w mean mg mb h₀ L fa l cd vs ns _ Q MA RA LM SG s0 s1 M0 M1 2 ss0 ss1 i0 i1 ng l0 l1 u0 u1 nl ZA n oM oP [(sz, instObj 207 dz), (dz, szD H1 H2 H3 H4 H5 e1 e2 e3 e4 e5 pg ps el de tp tq te td fu), (LA, lstO [.int la ta, .int lb tb] 0), (L + 1 + 1 + 1 + 1 + 1 + 1 + 1, oS), (L + 1 + 1 + 1 + 1 + 1, oL), (L + 1 + 1 + 1 + 1, oQ), (L + 1 + 1, o3), (L + 1, o2)] g0 g1 pg tp _ _ B X T hl hi hn ok0 ok1 m01 m11 pg0 (lim_le hl0 ps0.2) (lim_le hl1 ps0.2) (by rw [m02]; exact hl0) (by rw [m12]; exact hl1) hnb hma q0 q1 z0 z1 (most_tag ma) dM dP hown ⟨M0.d, M1.d, r0, r1, w0, w1, 2, 0, 0, u6, rfl, rfl, i0', i1', hd0, hd1⟩ F7 (News.perm N7 perm_join) ?_
  intro h8 k8 keep
  exact k h8 k8 keep
end Mine
end
section
open PySem PySem.W PyProof.Rows PySem.Calls
set_option Elab.async false
namespace Mine
set_option maxRecDepth 100000 in
set_option maxHeartbeats 4000000 in
theorem lawT : PySem.Challenge.rw_nm0116_01.Holds := by
  refine MineH.top ⟨fun w => MineH.map_pair (MineH.left1 w) (MineH.hook_obs (MineH.left2 w)), ?_⟩
  k_fill
  intro w s₀ s₁ mg mb G Y fa o pm cd doc dV kV ho hd hcd hD hmg hg args vals as hpre hlay hrd hwl hlo
  have KX := kIn_of Y
  have X := (Ground.X G).1
  have V := (Ground.X G).2
  refine Ground.open G ?_
  intro T B D TE TW
  try (refine guard_noD D (by decide +kernel) ?_; clear D)
  obtain ⟨_, _, M⟩ := bmod_of_top T
  have TA := at_of_top T
  clear hmg
  wrow_args hpre hlay hrd hwl hlo
  refine enterC_call ?_
  have K0 := below_caller s₁.heap
  have he := Dflts.none hD rfl
  subst he
  have he := Dflts.noKw hD
  subst he
  refine callC_cellsN (by decide) ho (fd_plain hd) (Top.nolimit T) hcd rfl (kinds_of (by kinds_ok)) (by decide) fun h₁ tk₁ cells F N0 X0 => ?_
  clear hd TA
  rename IntsAre _ _ => hI
  rename Heap.IsList _ _ _ => hL
  refine wpC_mono (law_all w _ mg mb _ _ fa _ cd _ _ cells _ _ K0 KX T hL hI (by omega) F N0 X0 ?hk) (fun _ _ x => x) (fun _ _ x => x.elim)
  intro h' tk keep
  refine ⟨.inl ⟨_, _, [], rfl, fun _ => rfl, .bool true, ?_, fun z => ?_⟩, keep, rfl, hg⟩
  · first
      | rfl
      | with_unfolding_all rfl
  · exact ⟨List.nodup_nil, fun a h => by cases h⟩
end Mine
end
theorem PySem.Challenge.cw_nm0116_01_holds : PySem.Challenge.rw_nm0116_01.Holds :=
  Mine.lawT
