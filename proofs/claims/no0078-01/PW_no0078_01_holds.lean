import PyProof.Rows.All
import Wide.All
import OpenK.AllK
import Wide.FinOn
import PySem.Challenge.RW_no0078_01
set_option maxRecDepth 100000
set_option Elab.async false
set_option linter.unusedVariables false
set_option linter.unusedSimpArgs false
-- P0
set_option maxRecDepth 100000
set_option Elab.async false
set_option linter.unusedVariables false
namespace Mine
open PySem PySem.W PySem.Calls PyProof.Rows
open Sem (wp)

/-! a second logic: of the contexts in which no codec and no search holds a bytearray -/
noncomputable def heldIds : List String := ["bytearray.__contains__", "bytearray.__mod__", "bytearray.__rmod__", "_struct.pack_into.held", "bytearray.find.held"] ++ Builtin.Bytes.decodersThatHold
noncomputable def okId (id : String) : Bool := !heldIds.contains id
noncomputable def okC : Code → Bool
  | .builtin id _ => okId id
  | _ => true
noncomputable def PuB (Γ : Ctx) : Prop := ∀ x ∈ Γ.below, okC x.1 = true
noncomputable def Pu (Γ : Ctx) : Prop := okC Γ.code = true ∧ PuB Γ

noncomputable def wpC {α : Type} (M : Model) (A : Around) (t : Sem α) (Q : α → Shared → Prop) (E : Value → Shared → Prop) (s : Shared) : Prop :=
  ∀ Γ p, Γ.In A → Pu Γ → wp M Γ t (fun a _ s' => Q a s') (fun e _ s' => E e s') p s
noncomputable def codeC (M : Model) (A : Around) (c : Code) (R : Result → Shared → Prop) (s : Shared) : Prop :=
  ∀ Γ p, Γ.code = c → Γ.Below A → PuB Γ → wpCode M Γ R p s

section
variable {α β : Type} {M : Model} {A : Around} {E : Value → Shared → Prop} {s : Shared}
theorem wpC_of {t : Sem α} {Q : α → Shared → Prop} (h : wpAny M A t Q E s) : wpC M A t Q E s := fun Γ p i _ => h Γ p i
theorem codeC_of {c : Code} {R : Result → Shared → Prop} (h : codeAny M A c R s) : codeC M A c R s := fun Γ p c i _ => h Γ p c i
theorem wpC_pure {a : α} {Q : α → Shared → Prop} (h : Q a s) : wpC M A (pure a) Q E s := wpC_of (wpAny_pure h)
theorem wpC_mono {t : Sem α} {Q Q' : α → Shared → Prop} {E' : Value → Shared → Prop} (h : wpC M A t Q E s) (hQ : ∀ a s, Q a s → Q' a s) (hE : ∀ e s, E e s → E' e s) : wpC M A t Q' E' s :=
  fun Γ p hΓ hp => Sem.wp_mono M Γ t (fun a _ s => hQ a s) (fun e _ s => hE e s) p s (h Γ p hΓ hp)
theorem wpC_bind {m : Sem α} {f : α → Sem β} {Q : β → Shared → Prop} (h : wpC M A m (fun a s' => wpC M A (f a) Q E s') E s) : wpC M A (m >>= f) Q E s := fun Γ p hΓ hp => by
  rw [Sem.wp_bind']
  exact Sem.wp_mono M Γ m (fun a p' s' h' => h' Γ p' hΓ hp) (fun _ _ _ h' => h') p s (h Γ p hΓ hp)
/-- first a step of the common logic -/
theorem wpC_step {m : Sem α} {f : α → Sem β} {Q : β → Shared → Prop} (h : wpAny M A m (fun a s' => wpC M A (f a) Q E s') E s) : wpC M A (m >>= f) Q E s := wpC_bind (wpC_of h)
theorem wpC_holding {vs : List Value} {m : Sem α} {Q : α → Shared → Prop} (h : wpC M A m Q E s) : wpC M A (holding vs m) Q E s := fun Γ p hΓ hp => by rw [Sem.wp_holding]; exact h Γ p hΓ hp
theorem wpC_keep {vs : List Value} {m : Sem α} {Q : α → Shared → Prop} (h : wpC M A m Q E s) : wpC M A (m.keep vs) Q E s := fun Γ p hΓ hp => by rw [Sem.wp_keep]; exact h Γ p hΓ hp
theorem wpC_onRaise {m : Sem α} {k : Value → Sem Unit} {Q : α → Shared → Prop} (h : wpC M A m Q (fun e s' => wpAny M A (k e) (fun _ s'' => E e s'') E s') s) : wpC M A (m.onRaise k) Q E s := fun Γ p hΓ hp => by
  rw [Sem.wp_onRaise]
  exact Sem.wp_mono M Γ m (fun _ _ _ h' => h') (fun e p' s' h' => h' Γ p' hΓ) p s (h Γ p hΓ hp)
theorem wpC_operate {vs : List Value} {m : Sem Value} {Q : Value → Shared → Prop} (h : wpC M A m Q E s) : wpC M A (operate vs m) Q E s := fun Γ p hΓ hp => by
  rw [Sem.wp_operate]; exact h Γ p hΓ hp
theorem pu_enter {Γ : Ctx} (h : Pu Γ) (c : Code) (hd : Option Value) (p : Pos) : PuB (Γ.enter c hd p) := fun x hx => by
  rcases List.mem_cons.mp hx with rfl | hx
  · exact h.1
  · exact h.2 x hx
theorem wpC_run {c : Code} {h : Option Value} {Q : Flow → Shared → Prop}
    (hc : codeC M (A.mark h) c (fun r s' => match r with | .ok f => Q f s' | .error e => E e s') s) (hnb : h ≠ some byPass := by intro x; cases x) : wpC M A (run c h) Q E s :=
  fun Γ p hΓ hp => by rw [Sem.wp_run]; exact hc _ p rfl (hΓ.enter c h p hnb) (pu_enter hp c h p)
theorem wpC_runValue {c : Code} {Q : Value → Shared → Prop}
    (hc : codeC M A c (fun r s' => match r with | .ok (.ret v) => Q v s' | .ok _ => False | .error e => E e s') s) : wpC M A (runValue c) Q E s :=
  fun Γ p hΓ hp => by rw [Sem.wp_runValue]; exact hc _ p rfl (hΓ.enter c none p (by intro x; cases x)) (pu_enter hp c none p)
theorem wpC_call {f : Value} {pos : List Value} {kw : List (Str × Value)} {Q : Value → Shared → Prop}
    (hc : codeC M A (.call f ⟨pos, kw⟩) (fun r s' => match r with | .ok (.ret v) => Q v s' | .ok _ => False | .error e => E e s') s) : wpC M A (call f pos kw) Q E s := wpC_runValue hc
theorem codeC_of_tree {c : Code} {R : Result → Shared → Prop} (ok : okC c = true)
    (h : wpC M (A.under c) (M.den c) (fun fin s' => match fin with | .done f => R (.ok f) s' | .again c' => c'.quiet = true ∧ codeC M A c' R s')
      (fun e s' => R (.error e) s') s) : codeC M A c R s := fun Γ p hc hΓ hp => by
  rw [wpCode_iff_wp, hc]
  refine Sem.wp_mono M Γ _ (fun fin p' s' h' => ?_) (fun _ _ _ h' => h') p s (h Γ p (hc ▸ hΓ.in) ⟨by rw [hc]; exact ok, hp⟩)
  cases fin with
  | done f => exact h'
  | again c' => exact ⟨h'.1, h'.2 (Γ.goto c') p' rfl (hΓ.goto c') hp⟩
theorem codeC_mono {c : Code} {R R' : Result → Shared → Prop} (h : codeC M A c R s) (hR : ∀ r s, R r s → R' r s) : codeC M A c R' s :=
  fun Γ p hc hΓ hp => wpCode_mono hR (h Γ p hc hΓ hp)
theorem codeC_loop {c : Code} {R : Result → Shared → Prop} (hq : c.quiet = true) (ok : okC c = true) (I : Nat → Shared → Prop)
    (turn : ∀ n s, I n s → wpC M (A.under c) (M.den c)
      (fun fin s' => match fin with
        | .done f => R (.ok f) s'
        | .again c' => (c' = c ∧ ∃ m, m < n ∧ I m s') ∨ (c'.quiet = true ∧ codeC M A c' R s')) (fun e s' => R (.error e) s') s)
    (n : Nat) (h : I n s) : codeC M A c R s := by
  induction n using Nat.strongRecOn generalizing s with
  | ind n ih =>
    refine codeC_of_tree ok (wpC_mono (turn n s h) (fun fin s' hf => ?_) fun _ _ h' => h')
    cases fin with
    | done f => exact hf
    | again c' =>
      rcases hf with ⟨rfl, m, hm, hI⟩ | hf
      · exact ⟨hq, ih m hm hI⟩
      · exact hf

theorem list_any_false {f : Code × Pos → Bool} : ∀ {l : List (Code × Pos)}, (∀ x ∈ l, okC x.1 = true) → (∀ c p, okC c = true → f (c, p) = false) → l.any f = false
  | [], _, _ => rfl
  | (c, p) :: r, h, hf => by
    rw [List.any_cons, hf c p (h _ (List.mem_cons_self ..)), list_any_false (l := r) (fun x hx => h x (List.mem_cons_of_mem _ hx)) hf]; rfl
theorem wpC_stackAny {f : Code × Pos → Bool} {Q : Bool → Shared → Prop} (hf : ∀ c p, okC c = true → f (c, p) = false) (h : Q false s) : wpC M A (do return (← stack).any f) Q E s := fun Γ p hΓ hp => by
  show Q (((Γ.code, p) :: Γ.below).any f) s
  rw [list_any_false (fun x hx => by
    rcases List.mem_cons.mp hx with rfl | hx
    · exact hp.1
    · exact hp.2 x hx) hf]
  exact h
theorem exported_false {self : Value} {Q : Bool → Shared → Prop} (h : Q false s) : wpC M A (Builtin.Bytes.exported self) Q E s := by
  unfold Builtin.Bytes.exported
  refine wpC_stackAny (fun c p ok => ?_) h
  cases c with
  | builtin id args =>
    have z : heldIds.contains id = false := by simpa [okC, okId] using ok
    unfold heldIds at z
    rw [List.contains_eq_mem, decide_eq_false_iff_not] at z
    simp only [List.cons_append, List.nil_append, List.mem_cons, not_or] at z
    obtain ⟨z1, z2, z3, z4, z5, z6⟩ := z
    obtain ⟨pos, kw⟩ := args
    have z7 : Builtin.Bytes.decodersThatHold.contains id = false := by rw [List.contains_eq_mem, decide_eq_false_iff_not]; exact z6
    delta Builtin.Bytes.exported.match_1 Builtin.Bytes.exported._sparseCasesOn_1
    dsimp only
    rw [dif_neg z1, dif_neg z2, dif_neg z3, dif_neg z4, dif_neg z5]
    cases pos with
    | nil => rfl
    | cons v tail => exact (congrArg (_ && ·) z7).trans (Bool.and_false _)
  | _ => rfl
end
end Mine

-- HD
set_option maxRecDepth 100000
set_option Elab.async false
set_option linter.unusedVariables false
namespace Mine
open PySem PySem.W PySem.Calls PyProof.Rows
open Sem (wp)

/-! the head, its call asked for in the second logic: from the caller's own context, in which no codec stands -/
theorem thread_endsC {prog : Program} {w : World} {t : Sem Fin} {s : Shared} {R : Result → Shared → Prop} (hreg : s.asleep)
    (h : wpC (model prog w) callerA t (fun fin s' => ∃ f, fin = .done f ∧ (R (.ok f) s' ∧ leftWithCleanup s'.gens = false)) (fun e s' => R (.error e) s' ∧ leftWithCleanup s'.gens = false) s) :
    ∃ n r s' s'', runN (denote table) prog w n s ⟨t, .builtin "claim.caller" {}, default, []⟩ = .halted (outcomeOf r) s' ∧
      schedN (denote table) prog w n (.single s ⟨t, .builtin "claim.caller" {}, default, []⟩) = .halted (outcomeOf r) s' ∧ s'.forget = s''.forget ∧ R r s'' := by
  have z := h ⟨.builtin "claim.caller" {}, none, none, [], none⟩ default caller_in ⟨by decide +kernel, fun x hx => nomatch hx⟩
  obtain ⟨n, r, s₁, s₂, hs, hn, hfo, hR⟩ := wp_halts_full (M := model prog w) (R := R) hreg (Sem.wp_mono _ _ _ (fun fin p s' q => by
    obtain ⟨f, rfl, hf⟩ := q
    exact hf) (fun _ _ _ q => q) _ _ z)
  exact ⟨n, r, s₂, s₁, hn, hs, hfo, hR⟩

/-- what is asked of the call -/
abbrev WalkC (q : Program) (loose : List Str) (XP : (Str → Option Value) → Heap → Prop) (YP : World → Heap → Prop) (r : RowW) (d : DefRec) (kwd : List (Str × Expr)) (run : Value → List Value → Sem Value) : Prop :=
  ∀ (w : World) (s₀ s₁ : Shared) (mg mb : Str → Option Value), Ground q loose r.records XP w s₀ mg mb s₁.heap → YP w s₁.heap → ∀ (a : Addr) (o : Obj) (pm cd doc dV kV : Value), s₁.heap.get? a = some o →
    o.data = .func { docDef d.name d.params d.body d.scope pm cd doc with defaults := dV, kwdefaults := kV } → s₁.heap.CodeRec cd d.name → Dflts mg s₁.heap d.params kwd dV kV → mg d.name = some (.ref a) → s₁.gens = #[] →
    ∀ (args : List WData) (vals : List Value) (as : List Addr), r.claim.pre args = true → WData.layableAll args = true → ReadsAllW r.records (classAt s₀.heap) s₁.heap vals args as → WellAll w.params s₁.heap vals args → (∀ a ∈ as, (a == sysModules) = false) →
      wpC (model r.prog w) callerA (run (.ref a) vals) (fun v s' => GoodWG r.claim (classAt s₀.heap) (ExcName.means s₀.heap) args s₁ (.ok (.ret v)) s')
        (fun e s' => GoodWG r.claim (classAt s₀.heap) (ExcName.means s₀.heap) args s₁ (.error e) s') s₁

theorem head_of {r : OpenRow} {q : Program} {loose : List Str} {Xt : Shared → Bool} {XP : (Str → Option Value) → Heap → Prop} {α : Type} {Yf : Shared → α} {Ya : World → α} {YP : World → Heap → Prop} {d : DefRec} {kwd : List (Str × Expr)} {N : Nat}
    (hY : ∀ w s, Yf s = Ya w → YP w s.heap) (hYk : ∀ w h h', YP w h → (∀ b o, h.get? b = some o → h'.get? b = some o) → YP w h')
    (hX : ∀ s, Xt s = true → XP (s.heap.nsMap mainGlobals) s.heap) (hXk : ∀ mg h h', XP mg h → (∀ b o, h.get? b = some o → h'.get? b = some o) → XP mg h')
    (hdef : defOf q r.name = some (d, kwd)) (hp : r.prog.theDef r.name = some (d.params, d.body, d.scope)) (hk : kwWritten? d.params.kwonlyargs d.params.kw_defaults = some kwd) (hRf : ∀ s, Xt s = true → RecFacts r.records s.heap) (hwr : (!r.writes || r.records.isEmpty) = true)
    (k1 : r.wellSaid = true) (ok : (chainsOk q && opensWell r.prog && (frees r.toRowW && r.within.isEmpty)) = true) (hb : r.prog.bare) (hw : r.toRowW.promised)
    (ends : LeftO r.prog q loose Xt Yf Ya N ∧ WalkC q loose XP YP r.toRowW d kwd fun f vs => PySem.call f vs) : r.Holds := by
  obtain ⟨left, call⟩ := ends
  obtain ⟨⟨hch, o1⟩, k5, k6⟩ : (chainsOk q = true ∧ opensWell r.prog = true) ∧ frees r.toRowW = true ∧ r.within.isEmpty = true := by
    simp only [Bool.and_eq_true] at ok; exact ok
  obtain ⟨hsame, hu, ha, hap, hm⟩ := frees_parts k5
  have hi := ident_freeW hu ha hap
  have hwi : r.toRowW.claim.within = [] := List.isEmpty_iff.mp k6
  refine ⟨k1, hw, ⟨hb, o1, by show r.toRowW.makers.map _ = []; rw [hm]; rfl⟩, hw.witness, fun w => ⟨(left.behind hX hch w).1, fun s' hs' => ?_⟩⟩
  obtain ⟨s₀, hf, hg0, s, hT, hz, hgens, hg, G0', y⟩ := (left.behind (XP := fun mg h => XP mg h ∧ RecFacts r.records h) (fun s hs => ⟨hX s hs, hRf s hs⟩) hch w).2 s' hs'
  have RF := G0'.X.2
  have G0 : Ground q loose [] XP w s (s.heap.nsMap mainGlobals) (s.heap.nsMap builtinsNs) s.heap := { G0' with X := G0'.X.1 }
  refine ⟨s₀, hf, hg0, s, id hT, fun n hn => ?_, RF.1, RF.2.1, fun args hpre hlay ord hord => ?_⟩
  · obtain rfl : n = r.name := by split at hn <;> simp_all
    exact pinned_of_view hg G0 hdef hp hk
  have hgens : s.gens = #[] := Array.eq_empty_of_size_eq_zero (beq_iff_eq.mp hgens)
  have G : Ground q loose r.records XP w s _ _ s.heap := RF.ground G0
  obtain ⟨⟨vs, s₁⟩, hlaid⟩ := Option.isSome_iff_exists.mp (layAllW_isSome (P := w.params) (ord := ord) G.has args r.args s (pre_splitW hpre).1)
  have keeps := layAllW_keeps _ _ _ hlaid
  have hal := layAllW_rest _ _ _ hlaid
  obtain ⟨as, hrd, hin, hold⟩ := reads_layAllW hord _ _ _ hlaid hlay s₁.heap (fun _ _ e => e)
  have LD : Laid r.records w s s₁ args vs as := ⟨⟨ord, hord, hlaid⟩, hrd, hin, hold, keeps, hal.1.trans hgens, hal.2.2.1⟩
  have G₁ := G.keeps hXk keeps
  obtain ⟨a, o, pm, cd, doc, dV, kV, h1, h2, h3, h4, h5⟩ := G₁.fn hdef
  have hcall := call w s s₁ _ _ G₁ (hYk _ _ _ (hY w s y) keeps) a o pm cd doc dV kV h2 h3 h4 h5 (defOf_name hdef ▸ h1) LD.gens args vs as hpre hlay LD.reads LD.well (LD.low G.low)
  have hst : callStub r.name vs = ⟨do match ← nsGet mainNs r.name with
      | some f => do ret (← PySem.call f vs)
      | none => unsupported "claim.caller:no-such-global", .builtin "claim.caller" {}, default, []⟩ := rfl
  have good : ∀ rr s', GoodWG r.toRowW.claim (classAt s.heap) (ExcName.means s.heap) args s₁ rr s' → (r.toRowW.claim.Ends s args vs s₁ rr s' ∧ s'.os = s.os ∧ (r.writes = true → namesKept r.prog r.keeps s.heap s'.heap ∧ ∀ x ∈ r.records, ∀ a, classAt s.heap x.1 = some a → recordClass s'.heap a x.1 (x.2.map (·.1)) = true)) ∧ leftWithCleanup s'.gens = false := fun rr s' g => by
    have z := g.laid (c := r.toRowW.claim) hsame hwi hi LD
    exact ⟨⟨z.1, z.2.1, fun q => ⟨namesKept_of hT hg _ keeps g.2.1.old, noTable hwr q⟩⟩, leftWithCleanup_false_of_bare z.2.2⟩
  obtain ⟨k, rr, s2, s3, hrun, hsched, hfo, hcase, hos, hkp⟩ := thread_endsC (prog := r.prog) (w := w) (t := do match ← nsGet mainNs r.name with
      | some f => do ret (← PySem.call f vs)
      | none => unsupported "claim.caller:no-such-global") (s := s₁) (R := fun rr s' => r.toRowW.claim.Ends s args vs s₁ rr s' ∧ s'.os = s.os ∧ (r.writes = true → namesKept r.prog r.keeps s.heap s'.heap ∧ ∀ x ∈ r.records, ∀ a, classAt s.heap x.1 = some a → recordClass s'.heap a x.1 (x.2.map (·.1)) = true))
    (Shared.asleep_of_life hal.2.2.2 hz)
    (wpC_step (wpAny_nsGet G₁.T.g (by
      rw [h1]
      exact wpC_bind (wpC_mono hcall (fun v s' g => wpC_pure ⟨_, rfl, good _ _ g⟩) fun e s' g => good _ _ g))))
  obtain ⟨eh, _, _, eo, _⟩ := Shared.forget_eq hfo
  have hcase := hcase.congr eh
  rw [← eh] at hkp
  rw [← eo] at hos
  have hlife : s2.heap.life = s.heap.life := (runN_life _ _ _ hrun).trans hal.2.2.2
  refine ⟨vs, s₁, hlaid, k, _, s2, hst ▸ hsched, ?_, (fun _ i x hx => by rw [hgens] at hx; simp at hx), hkp, by rw [hlife], Shared.rest_eq hos⟩
  rcases hcase with ⟨v, rfl, d1, d2, d3, d4, d5⟩ | ⟨e, ob, cls, rfl, d1, d2, d3, d4, d5⟩
  · exact .inl ⟨v, rfl, d1, d2, d3, fun b o y _ => d4 b o y, d5⟩
  · exact .inr ⟨e, ob, cls, rfl, d1, d2, d3, d4, fun b o y _ => d5 b o y⟩

/-- the text without the rows that set its own name -/
noncomputable def pick {α : Type} : List Bool → List α → List α
  | true :: r, x :: l => x :: pick r l
  | false :: r, _ :: l => pick r l
  | _, l => l
noncomputable def view : Program := { PySem.Challenge.pw_no0078_01 with main := { PySem.Challenge.pw_no0078_01.main with body := pick [true, false, true, true, true, true, false, true, true, true, true, true, true, false, true, false, true, true, true, true, true, true, true, true, true, true, true, true, true, true, true, true, true, true, false] PySem.Challenge.pw_no0078_01.main.body } }

theorem both {a b : Bool} (h1 : a = true) (h2 : b = true) : (a && b) = true := by rw [h1, h2]; rfl
set_option maxHeartbeats 8000000 in
theorem said_law : PySem.Challenge.rw_no0078_01.wellSaid = true := by
  delta OpenLaw.wellSaid OpenRow.wellSaid OpenRow.partSaid looksOpen
  repeat' (with_reducible refine both ?_ ?_)
  all_goals decide +kernel
local macro_rules | `(tactic| o_law) => `(tactic| refine holds_law said_law fun said => ?_)
set_option hygiene false in
local macro_rules | `(tactic| o_head $H) => `(tactic| (
  refine head_of (q := view) (loose := [Str.ofString "BOUNDS"]) (Xt := fun s => xlAt view [] s && recOk [] s) (XP := XL view []) (Yf := Hook.obs $H) (Ya := Hook.val $H) (YP := Hook.says $H) (N := 4338) (Hook.of $H) (Hook.keeps $H) (fun s e => xl_of s (Bool.and_eq_true_iff.mp e).1) XL.keeps (by rfl) (by rfl) (by rfl) (fun s e => recFacts_of (Bool.and_eq_true_iff.mp e).2) (by rfl) (by first | assumption | decide +kernel) (by decide +kernel) ⟨rfl, rfl, rfl, rfl, rfl, by decide +kernel⟩ ?hw ?hc))
set_option maxRecDepth 100000 in
set_option maxHeartbeats 8000000 in
open_top hd for PySem.Challenge.rw_no0078_01
/-! the run of the top, in five parts, each from a written state to the next -/
/-- the top's objects that the written part does not hold -/
noncomputable def extra (P : Params) : List (Addr × Obj) := [
  (11, { cls := Value.type "tuple", data := Data.seq #[] }),
  (12, { cls := Value.none, data := Data.fields #[Value.int 1 0, Value.int 0 0, Value.ref 20, Value.int 7 0, Value.int 0 0, Value.ref 27, Value.int 14 0, Value.int 0 0, Value.ref 47, Value.int 21 0, Value.int 0 0, Value.ref 68, Value.int 29 0, Value.int 0 0, Value.ref 75, Value.int 36 0, Value.int 0 0, Value.ref 82, Value.int 41 0, Value.int 0 0, Value.ref 89, Value.int 48 0, Value.int 0 0, Value.ref 96, Value.int 54 0, Value.int 0 0, Value.ref 103, Value.int 87 0, Value.int 0 0, Value.ref 197, Value.int 89 0, Value.int 0 0, Value.ref 204, Value.int 94 0, Value.int 0 0, Value.ref 209, Value.int 98 0, Value.int 0 0, Value.ref 216, Value.int 104 0, Value.int 0 0, Value.ref 223, Value.int 113 0, Value.int 0 0, Value.ref 230, Value.int 124 0, Value.int 0 0, Value.ref 237, Value.int 136 0, Value.int 0 0, Value.ref 244, Value.int 148 0, Value.int 0 0, Value.ref 251, Value.int 157 0, Value.int 0 0, Value.ref 258, Value.int 171 0, Value.int 0 0, Value.ref 265, Value.int 176 0, Value.int 0 0, Value.ref 272, Value.int 186 0, Value.int 0 0, Value.ref 279, Value.int 188 0, Value.int 0 0, Value.ref 286, Value.int 190 0, Value.int 0 0, Value.ref 293, Value.int 194 0, Value.int 0 0, Value.ref 298, Value.int 196 0, Value.int 0 0, Value.ref 305, Value.int 205 0, Value.int 0 0, Value.ref 312, Value.int 207 0, Value.int 0 0, Value.ref 319, Value.int 215 0, Value.int 0 0, Value.ref 324, Value.int 235 0, Value.int 0 0, Value.ref 331, Value.int 240 0, Value.int 0 0, Value.ref 338, Value.int 246 0, Value.int 0 0, Value.ref 345, Value.int 253 0, Value.int 0 0, Value.ref 350] }),
  (13, { cls := Value.type "code", data := Data.fields #[Value.str (Str.ofString "<module>") 182, Value.str (Str.ofString "<module>") 183, Value.str (Str.ofString "/claim/cut.py") 184, Value.int 1 0, Value.int 0 0, Value.int 0 0, Value.int 0 0, Value.int 0 0, Value.ref 11, Value.bool false, Value.int 181 0, Value.ref 12, Value.none, Value.none, Value.none, Value.none, Value.int 185 0, Value.int 1 0, Value.str (Str.ofString "/claim/cut.py") 186] }),
  (14, { cls := Value.type "frame", slots := #[some (Value.ref 13), some (Value.ref 3), some (Value.ref 3), none, some (Value.str (Str.ofString "__main__") 164), none, some (Value.ref 0)] }),
  (23, { cls := Value.type "builtin_function_or_method", data := Data.fields #[Value.builtin "type.__prepare__", Value.type "type"] }),
  (24, { cls := Value.type "dict", data := Data.dict #[{ hash := PyData.keyHash P (Str.ofString "__module__"), key := Value.str (Str.ofString "__module__") 207, val := Value.str (Str.ofString "quic.errors") 194 }, { hash := PyData.keyHash P (Str.ofString "__qualname__"), key := Value.str (Str.ofString "__qualname__") 209, val := Value.str (Str.ofString "QuicError") 208 }, { hash := PyData.keyHash P (Str.ofString "__firstlineno__"), key := Value.str (Str.ofString "__firstlineno__") 211, val := Value.int 7 210 }, { hash := PyData.keyHash P (Str.ofString "__init__"), key := Value.str (Str.ofString "__init__") 221, val := Value.ref 35 }, { hash := PyData.keyHash P (Str.ofString "__static_attributes__"), key := Value.str (Str.ofString "__static_attributes__") 225, val := Value.ref 36 }] 5 }),
  (25, { cls := Value.type "tuple", data := Data.seq #[] }),
  (26, { cls := Value.none, data := Data.fields #[Value.int 9 0, Value.int 4 0, Value.ref 34] }),
  (27, { cls := Value.type "code", data := Data.fields #[Value.str (Str.ofString "QuicError") 202, Value.str (Str.ofString "QuicError") 203, Value.str (Str.ofString "/claim/cut.py") 204, Value.int 7 0, Value.int 0 0, Value.int 0 0, Value.int 0 0, Value.int 0 0, Value.ref 25, Value.bool false, Value.int 181 0, Value.ref 26, Value.none, Value.none, Value.none, Value.none, Value.int 205 0, Value.int 7 0, Value.str (Str.ofString "/claim/cut.py") 206] }),
  (28, { cls := Value.type "frame", slots := #[some (Value.ref 27), some (Value.ref 3), some (Value.ref 24), none, some (Value.str (Str.ofString "quic.errors") 194), none, some (Value.ref 0)] }),
  (40, { cls := Value.type "super", data := Data.fields #[Value.ref 38, Value.ref 38, Value.ref 38] }),
  (41, { cls := Value.type "builtin_function_or_method", data := Data.fields #[Value.builtin "object.__init_subclass__", Value.ref 38] }),
  (43, { cls := Value.type "builtin_function_or_method", data := Data.fields #[Value.builtin "type.__prepare__", Value.type "type"] }),
  (44, { cls := Value.type "dict", data := Data.dict #[{ hash := PyData.keyHash P (Str.ofString "__module__"), key := Value.str (Str.ofString "__module__") 240, val := Value.str (Str.ofString "quic.errors") 194 }, { hash := PyData.keyHash P (Str.ofString "__qualname__"), key := Value.str (Str.ofString "__qualname__") 242, val := Value.str (Str.ofString "Short") 241 }, { hash := PyData.keyHash P (Str.ofString "__firstlineno__"), key := Value.str (Str.ofString "__firstlineno__") 244, val := Value.int 14 243 }, { hash := PyData.keyHash P (Str.ofString "__init__"), key := Value.str (Str.ofString "__init__") 252, val := Value.ref 55 }, { hash := PyData.keyHash P (Str.ofString "__static_attributes__"), key := Value.str (Str.ofString "__static_attributes__") 254, val := Value.ref 56 }] 5 }),
  (45, { cls := Value.type "tuple", data := Data.seq #[] }),
  (46, { cls := Value.none, data := Data.fields #[Value.int 16 0, Value.int 4 0, Value.ref 54] }),
  (47, { cls := Value.type "code", data := Data.fields #[Value.str (Str.ofString "Short") 235, Value.str (Str.ofString "Short") 236, Value.str (Str.ofString "/claim/cut.py") 237, Value.int 14 0, Value.int 0 0, Value.int 0 0, Value.int 0 0, Value.int 0 0, Value.ref 45, Value.bool false, Value.int 181 0, Value.ref 46, Value.none, Value.none, Value.none, Value.none, Value.int 238 0, Value.int 14 0, Value.str (Str.ofString "/claim/cut.py") 239] }),
  (48, { cls := Value.type "frame", slots := #[some (Value.ref 47), some (Value.ref 3), some (Value.ref 44), none, some (Value.str (Str.ofString "quic.errors") 194), none, some (Value.ref 0)] }),
  (60, { cls := Value.type "super", data := Data.fields #[Value.ref 58, Value.ref 58, Value.ref 58] }),
  (61, { cls := Value.type "builtin_function_or_method", data := Data.fields #[Value.builtin "object.__init_subclass__", Value.ref 58] }),
  (98, { cls := Value.type "tuple", data := Data.seq #[] }),
  (99, { cls := Value.type "builtin_function_or_method", data := Data.fields #[Value.builtin "type.__prepare__", Value.type "type"] }),
  (100, { cls := Value.type "dict", data := Data.dict #[{ hash := PyData.keyHash P (Str.ofString "__module__"), key := Value.str (Str.ofString "__module__") 325, val := Value.str (Str.ofString "quic.octets") 316 }, { hash := PyData.keyHash P (Str.ofString "__qualname__"), key := Value.str (Str.ofString "__qualname__") 327, val := Value.str (Str.ofString "Reader") 326 }, { hash := PyData.keyHash P (Str.ofString "__firstlineno__"), key := Value.str (Str.ofString "__firstlineno__") 329, val := Value.int 54 328 }, { hash := PyData.keyHash P (Str.ofString "__init__"), key := Value.str (Str.ofString "__init__") 337, val := Value.ref 111 }, { hash := PyData.keyHash P (Str.ofString "left"), key := Value.str (Str.ofString "left") 344, val := Value.ref 118 }, { hash := PyData.keyHash P (Str.ofString "take"), key := Value.str (Str.ofString "take") 352, val := Value.ref 125 }, { hash := PyData.keyHash P (Str.ofString "rest"), key := Value.str (Str.ofString "rest") 359, val := Value.ref 132 }, { hash := PyData.keyHash P (Str.ofString "whole"), key := Value.str (Str.ofString "whole") 368, val := Value.ref 139 }, { hash := PyData.keyHash P (Str.ofString "varint"), key := Value.str (Str.ofString "varint") 376, val := Value.ref 146 }, { hash := PyData.keyHash P (Str.ofString "__static_attributes__"), key := Value.str (Str.ofString "__static_attributes__") 379, val := Value.ref 147 }] 10 }),
  (101, { cls := Value.type "tuple", data := Data.seq #[] }),
  (102, { cls := Value.none, data := Data.fields #[Value.int 56 0, Value.int 4 0, Value.ref 110, Value.int 60 0, Value.int 4 0, Value.ref 117, Value.int 63 0, Value.int 4 0, Value.ref 124, Value.int 69 0, Value.int 4 0, Value.ref 131, Value.int 72 0, Value.int 4 0, Value.ref 138, Value.int 77 0, Value.int 4 0, Value.ref 145] }),
  (103, { cls := Value.type "code", data := Data.fields #[Value.str (Str.ofString "Reader") 320, Value.str (Str.ofString "Reader") 321, Value.str (Str.ofString "/claim/cut.py") 322, Value.int 54 0, Value.int 0 0, Value.int 0 0, Value.int 0 0, Value.int 0 0, Value.ref 101, Value.bool false, Value.int 181 0, Value.ref 102, Value.none, Value.none, Value.none, Value.none, Value.int 323 0, Value.int 54 0, Value.str (Str.ofString "/claim/cut.py") 324] }),
  (104, { cls := Value.type "frame", slots := #[some (Value.ref 103), some (Value.ref 3), some (Value.ref 100), none, some (Value.str (Str.ofString "quic.octets") 316), none, some (Value.ref 0)] }),
  (152, { cls := Value.type "super", data := Data.fields #[Value.ref 149, Value.ref 149, Value.ref 149] }),
  (153, { cls := Value.type "builtin_function_or_method", data := Data.fields #[Value.builtin "object.__init_subclass__", Value.ref 149] })]
noncomputable def bare : List Nat := [16, 30, 50, 64, 71, 78, 85, 92, 106, 113, 120, 127, 134, 141, 193, 200, 207, 212, 219, 226, 233, 240, 247, 254, 261, 268, 275, 282, 289, 296, 301, 308, 315, 322, 327, 334, 341, 348]
/-- a def's record, of the function two places behind it -/
noncomputable def recOf (o : Obj) : Obj := match o.data with
  | .func fd => { cls := Value.none, data := Data.func { name := fd.name, qualname := fd.qualname, params := fd.params, body := fd.body, scope := fd.scope, globals := 0, closure := [], defaults := Value.none, kwdefaults := Value.none } }
  | _ => o
noncomputable def fin (P : Params) (j : Nat) : Obj := match (hd.heap_1 P).lookup j with
  | some o => o
  | none => match (extra P).lookup j with
    | some o => o
    | none => match bare.contains j with
      | true => { cls := Value.none, data := Data.fields #[] }
      | false => match Nat.blt j 11 with
        | true => (boot_heap P).objs.toList.getD j default
        | false => match (hd.heap_1 P).lookup (j + 2) with
          | some o => recOf o
          | none => default

noncomputable def cut3 (o : Obj) (e : Nat) (v : Value) : Obj := match o.data with
  | .dict es _ => { o with data := .dict (Array.mk (match es.toList.take e with | x :: r => { x with val := v } :: r | [] => [])) e }
  | _ => o
noncomputable def cut12 (o : Obj) (k : Nat) : Obj := match o.data with
  | .fields vs => { o with data := .fields (Array.mk (vs.toList.take k)) }
  | _ => o
/-- the objects once n of them are made: e names are bound, the module's name is v, its code's table has k items -/
noncomputable def objsAt (P : Params) (n e k : Nat) (v : Value) : List Obj := (List.range n).map fun j => match Nat.beq j 3 with
  | true => cut3 (fin P 3) e v
  | false => match Nat.beq j 12 with
    | true => cut12 (fin P 12) k
    | false => fin P j
noncomputable def insAll : List Obj → Nat → BT → BT
  | [], _, t => t
  | o :: r, i, t => insAll r (i + 1) (t.ins i o)
abbrev pZ : Program := PySem.Challenge.pw_no0078_01
noncomputable def bZ : List Stmt := behindTheImports pZ
noncomputable def eZ : Env := { scope := pZ.main.scope, locals := mainNs, globals := mainNs, cells := [], code := .ref 13, frame := some 14 }
noncomputable def cZ : Code := .body bZ eZ
noncomputable def qZ : Pos := ⟨0, 0, 0, 0⟩
noncomputable def stZ (l : List Obj) (n tk : Nat) (os : OsState) : SharedT := ⟨insAll l 0 .nil, n, {}, Array.mk [], {}, tk, os⟩
noncomputable def sA (w : World) (os : OsState) : SharedT := stZ ((boot_heap w.params).objs.toList ++ [fin w.params 11, cut12 (fin w.params 12) 0, fin w.params 13, fin w.params 14]) 15 187 os
noncomputable def s1 (w : World) (os : OsState) : SharedT := stZ (objsAt w.params 62 14 9 (.str (Str.ofString "quic.errors") 194)) 62 262 os
noncomputable def s2 (w : World) (os : OsState) : SharedT := stZ (objsAt w.params 154 21 27 (.str (Str.ofString "quic.octets") 316)) 154 387 os
noncomputable def s3 (w : World) (os : OsState) : SharedT := stZ (objsAt w.params 218 31 39 (.str (Str.ofString "quic.params") 387)) 218 537 os
noncomputable def s4 (w : World) (os : OsState) : SharedT := stZ (objsAt w.params 295 42 72 (.str (Str.ofString "law_no0078_01") 627)) 295 648 os
noncomputable def s5 (w : World) (os : OsState) : SharedT := stZ (objsAt w.params 352 51 99 (.str (Str.ofString "law_no0078_01") 627)) 352 722 os
theorem run_pre : ∀ (w : World) (os : OsState), topGo treeTable pZ w 11 (some (.ref 6)) 12 ⟨boot_heap w.params, Array.mk [], boot_drawn, boot_toks, os⟩ (topStub pZ) = some ((sA w os).abs, ⟨denote treeTable cZ, cZ, qZ, [topFrame qZ]⟩) := fun w os => by kernel_rfl
theorem run_block : ∀ (w : World) (os : OsState), segRunT treeTable pZ w 11 (some (.ref 6)) 1 1 (sA w os) (blockOf bZ eZ cZ qZ [topFrame qZ]) = some (.next, sA w os, cZ, qZ) := fun w os => by kernel_rfl
theorem run_1 : ∀ (w : World) (os : OsState), segRunT treeTable pZ w 11 (some (.ref 6)) 1 700 (sA w os) (piecesOf (bZ.take 6) eZ cZ qZ [topFrame qZ]) = some (.next, s1 w os, cZ, ⟨14, 0, 18, 24⟩) := fun w os => by kernel_rfl
theorem run_2 : ∀ (w : World) (os : OsState), segRunT treeTable pZ w 11 (some (.ref 6)) 1 700 (s1 w os) (piecesOf ((bZ.drop 6).take 9) eZ cZ ⟨14, 0, 18, 24⟩ [topFrame qZ]) = some (.next, s2 w os, cZ, ⟨54, 0, 79, 20⟩) := fun w os => by kernel_rfl
theorem run_3 : ∀ (w : World) (os : OsState), segRunT treeTable pZ w 11 (some (.ref 6)) 1 700 (s2 w os) (piecesOf ((bZ.drop 15).take 11) eZ cZ ⟨54, 0, 79, 20⟩ [topFrame qZ]) = some (.next, s3 w os, cZ, ⟨98, 0, 103, 59⟩) := fun w os => by kernel_rfl
theorem run_4 : ∀ (w : World) (os : OsState), segRunT treeTable pZ w 11 (some (.ref 6)) 1 700 (s3 w os) (piecesOf ((bZ.drop 26).take 12) eZ cZ ⟨98, 0, 103, 59⟩ [topFrame qZ]) = some (.next, s4 w os, cZ, ⟨190, 0, 193, 23⟩) := fun w os => by kernel_rfl
theorem run_5 : ∀ (w : World) (os : OsState), segRunT treeTable pZ w 11 (some (.ref 6)) 1 700 (s4 w os) (piecesOf ((bZ.drop 38).take 9) eZ cZ ⟨190, 0, 193, 23⟩ [topFrame qZ]) = some (.next, s5 w os, cZ, ⟨253, 0, 287, 54⟩) := fun w os => by kernel_rfl
theorem run_fin : ∀ (w : World) (os : OsState), topRun treeTable pZ w 11 (some (.ref 6)) 2 (s5 w os).abs ⟨doneF .next, cZ, ⟨253, 0, 287, 54⟩, [topFrame qZ]⟩ = some (s5 w os).abs := fun w os => by kernel_rfl
theorem bZ_cut : bZ = bZ.take 6 ++ ((bZ.drop 6).take 9 ++ ((bZ.drop 15).take 11 ++ ((bZ.drop 26).take 12 ++ ((bZ.drop 38).take 9 ++ [])))) := by kernel_rfl
theorem run_all : ∀ (w : World) (os : OsState), topRun treeTable pZ w 11 (some (.ref 6)) (12 + (1 + (700 + (700 + (700 + (700 + (700 + 2))))))) ⟨boot_heap w.params, Array.mk [], boot_drawn, boot_toks, os⟩ (topStub pZ) = some (s5 w os).abs := fun w os => by
  refine go_top (run_pre w os) (piece_block (b := bZ) (env := eZ) (segRun_of (run_block w os)) ?_)
  rw [bZ_cut]
  exact piece_app (segRun_of (run_1 w os)) (piece_app (segRun_of (run_2 w os)) (piece_app (segRun_of (run_3 w os)) (piece_app (segRun_of (run_4 w os)) (piece_app (segRun_of (run_5 w os)) (piece_nil (run_fin w os))))))
/-! what is seen of the top's end -/
noncomputable def hZ (P : Params) : Heap := ⟨Array.mk (objsAt P 352 51 99 (.str (Str.ofString "law_no0078_01") 627)), {}⟩
noncomputable def fZ (w : World) (os : OsState) : Shared := ⟨hZ w.params, Array.mk [], {}, 722, os⟩
noncomputable abbrev XZ (s : Shared) : Bool := xlAt view [] s && recOk [] s
theorem s5_abs : ∀ (w : World) (os : OsState), (s5 w os).abs = fZ w os := fun w os => by kernel_rfl
theorem see_size : ∀ w : World, ((boot_heap w.params).isNs mainGlobals && (Array.mk ([] : List GenState)).size == 0, (boot_heap w.params).objs.size, (boot_heap w.params).nsMap mainGlobals "__annotations__") = (true, 11, some (.ref 6)) := fun w => by kernel_rfl
theorem see_kept : ∀ (w : World) (os : OsState), (staticsOk (importedModules pZ.main.body) (boot_heap w.params) (hZ w.params) && namesBound pZ (hZ w.params) && gensDone (fZ w os) && laidKept (boot_heap w.params) (hZ w.params)) = true := fun w os => by kernel_rfl
theorem see_defs : ∀ (w : World) (os : OsState), seen ((recsOf view).map (·.name)) (ownsOf view) [] { fZ w os with gens := #[] } = expectedOf view := fun w os => by kernel_rfl
theorem see_blt : ∀ (w : World) (os : OsState), (fZ w os).heap.bltView = bltViewBooted := fun w os => by kernel_rfl
theorem see_keys : ∀ (w : World) (os : OsState), (fZ w os).heap.keysOk (looseW view [Str.ofString "BOUNDS"]) ((recsOf view).map (·.name)) ((litsOf view).map (·.1)) ((clssOf view (looseW view [Str.ofString "BOUNDS"])).map (·.name)) = true := fun w os => by kernel_rfl
theorem see_rest : ∀ (w : World) (os : OsState), ((fZ w os).heap.accountedOkI (importedModules pZ.main.body) && (fZ w os).heap.isNs mainGlobals && (fZ w os).heap.isNs builtinsNs && tablesOk view (fZ w os).heap && XZ (fZ w os) && (if true = true then (fZ w os).gens.size == 0 else !leftWithCleanup (fZ w os).gens)) = true := fun w os => by kernel_rfl
theorem see_tabs : ∀ (w : World) (os : OsState), tabsOk view (fZ w os) = true := fun w os => by kernel_rfl
theorem see_pins : ∀ (w : World) (os : OsState), (pinSeenD view (drecsOf view) (fZ w os), plainSeenE view (looseW view [Str.ofString "BOUNDS"]) (fZ w os)) = (pinGoodD (drecsOf view), plainGoodE view (looseW view [Str.ofString "BOUNDS"])) := fun w os => by kernel_rfl
theorem see_wide : ∀ (w : World) (os : OsState), (plainSeenD view [Str.ofString "BOUNDS"] (fZ w os), wideSeen view (fZ w os), clsSeenW view [Str.ofString "BOUNDS"] (fZ w os)) = (plainGoodD view [Str.ofString "BOUNDS"], wideGood view, clsGoodW view [Str.ofString "BOUNDS"]) := fun w os => by kernel_rfl
theorem see_objs : ∀ w : World, ([2, 3, 15, 17, 18, 20, 21, 22, 29, 31, 32, 34, 35, 36, 37, 38, 39, 42, 49, 51, 52, 54, 55, 56, 57, 58, 59, 62, 63, 65, 66, 68, 69, 70, 72, 73, 75, 76, 77, 79, 80, 82, 83, 84, 86, 87, 89, 90, 91, 93, 94, 96, 97, 105, 107, 108, 110, 111, 112, 114, 115, 117, 118, 119, 121, 122, 124, 125, 126, 128, 129, 131, 132, 133, 135, 136, 138, 139, 140, 142, 143, 145, 146, 147, 148, 149, 150, 151, 154, 155, 156, 157, 158, 159, 160, 161, 162, 163, 164, 165, 166, 167, 168, 169, 170, 171, 172, 173, 174, 175, 176, 177, 178, 179, 180, 181, 182, 183, 184, 185, 186, 187, 188, 189, 190, 191, 192, 194, 195, 197, 198, 199, 201, 202, 204, 205, 206, 209, 210, 211, 213, 214, 216, 217, 218, 220, 221, 223, 224, 225, 227, 228, 230, 231, 232, 234, 235, 237, 238, 239, 241, 242, 244, 245, 246, 248, 249, 251, 252, 253, 255, 256, 258, 259, 260, 262, 263, 265, 266, 267, 269, 270, 272, 273, 274, 276, 277, 279, 280, 281, 283, 284, 286, 287, 288, 290, 291, 293, 294, 295, 298, 299, 300, 302, 303, 305, 306, 307, 309, 310, 312, 313, 314, 316, 317, 319, 320, 321, 324, 325, 326, 328, 329, 331, 332, 333, 335, 336, 338, 339, 340, 342, 343, 345, 346, 347, 350, 351] : List Nat).map (hZ w.params).get? = (hd.heap_1 w.params).map fun p => some p.2 := fun w => by kernel_rfl
theorem see_tab : ∀ w : World, ([348] : List Nat).map (hZ w.params).get? = [348].map fun _ => some (tabObj #[]) := fun w => by kernel_rfl
theorem see_keysAre : ∀ w : World, (hd.heap_1 w.params).map (·.1) = ([2, 3, 15, 17, 18, 20, 21, 22, 29, 31, 32, 34, 35, 36, 37, 38, 39, 42, 49, 51, 52, 54, 55, 56, 57, 58, 59, 62, 63, 65, 66, 68, 69, 70, 72, 73, 75, 76, 77, 79, 80, 82, 83, 84, 86, 87, 89, 90, 91, 93, 94, 96, 97, 105, 107, 108, 110, 111, 112, 114, 115, 117, 118, 119, 121, 122, 124, 125, 126, 128, 129, 131, 132, 133, 135, 136, 138, 139, 140, 142, 143, 145, 146, 147, 148, 149, 150, 151, 154, 155, 156, 157, 158, 159, 160, 161, 162, 163, 164, 165, 166, 167, 168, 169, 170, 171, 172, 173, 174, 175, 176, 177, 178, 179, 180, 181, 182, 183, 184, 185, 186, 187, 188, 189, 190, 191, 192, 194, 195, 197, 198, 199, 201, 202, 204, 205, 206, 209, 210, 211, 213, 214, 216, 217, 218, 220, 221, 223, 224, 225, 227, 228, 230, 231, 232, 234, 235, 237, 238, 239, 241, 242, 244, 245, 246, 248, 249, 251, 252, 253, 255, 256, 258, 259, 260, 262, 263, 265, 266, 267, 269, 270, 272, 273, 274, 276, 277, 279, 280, 281, 283, 284, 286, 287, 288, 290, 291, 293, 294, 295, 298, 299, 300, 302, 303, 305, 306, 307, 309, 310, 312, 313, 314, 316, 317, 319, 320, 321, 324, 325, 326, 328, 329, 331, 332, 333, 335, 336, 338, 339, 340, 342, 343, 345, 346, 347, 350, 351] : List Nat) := fun w => by kernel_rfl
theorem and_first {a b c d e f g : Bool} (h : a = true) (r : (b && c && d && e && f && g) = true) : (a && b && c && d && e && f && g) = true := by rw [h, Bool.true_and]; exact r
theorem run_z : ∀ (w : World) (os : OsState), topRun treeTable pZ w 11 (some (.ref 6)) (12 + (1 + (700 + (700 + (700 + (700 + (700 + 2))))))) ⟨boot_heap w.params, Array.mk [], boot_drawn, boot_toks, os⟩ (topStub pZ) = some (fZ w os) := fun w os => by
  rw [run_all w os, s5_abs w os]
theorem see_all (w : World) (os : OsState) : (staticsOk (importedModules pZ.main.body) (boot_heap w.params) (hZ w.params) && namesBound pZ (hZ w.params) && gensDone (fZ w os) && laidKept (boot_heap w.params) (hZ w.params),
    openSeen view [Str.ofString "BOUNDS"] (importedModules pZ.main.body) XZ true (fZ w os)) = (true, openGood view [Str.ofString "BOUNDS"]) := by
  delta openSeen openGood
  obtain ⟨p1, p2⟩ := Prod.mk.inj (see_pins w os)
  obtain ⟨w1, w2⟩ := Prod.mk.inj (see_wide w os)
  obtain ⟨w2, w3⟩ := Prod.mk.inj w2
  exact looks_pair (see_kept w os) (looks_pair (see_defs w os) (looks_pair (see_blt w os) (looks_pair (and_first (see_keys w os) (see_rest w os)) (looks_pair (see_tabs w os) (looks_pair p1 (looks_pair p2 (looks_pair w1 (looks_pair w2 w3))))))))
theorem see_hook (w : World) {as : List Addr} (e : ∀ P, as = (hd.heap_1 P).map (·.1)) : (as.map (hZ w.params).get?, ([348] : List Addr).map (hZ w.params).get?) = ((hd.heap_1 w.params).map fun p => some p.2, [348].map fun _ => some (tabObj #[])) := by
  rw [(e w.params).trans (see_keysAre w)]
  exact looks_pair (see_objs w) (see_tab w)
theorem m_le : Nat.ble (12 + (1 + (700 + (700 + (700 + (700 + (700 + 2))))))) 4338 = true := by decide +kernel
set_option maxHeartbeats 4000000 in
theorem left {as : List Addr} {e : ∀ P, as = (hd.heap_1 P).map (·.1)} : LeftO pZ view [Str.ofString "BOUNDS"] XZ (kmHook hd.heap_1 as e [348]).obs (kmHook hd.heap_1 as e [348]).val 4338 := by
  refine LeftO.of_pieces (p := pZ) (q := view) (H₀ := boot_heap) (H₁ := hZ) (gs₀ := Array.mk []) (gs₁ := Array.mk []) (d₀ := boot_drawn) (d₁ := {}) (k₀ := boot_toks) (k₁ := 722) (m₀ := 11) (ann := some (.ref 6)) (M := 12 + (1 + (700 + (700 + (700 + (700 + (700 + 2)))))))
    (boot_open (by rfl) (by rfl) fun s => by rfl) see_size (fun w os => run_z w os) m_le (fun w => funext fun os => ?_)
  obtain ⟨a1, a2⟩ := Prod.mk.inj (see_all w os)
  exact looks_pair a1 (looks_pair a2 (see_hook w e))
end Mine

-- L1
set_option maxRecDepth 100000
set_option Elab.async false
set_option linter.unusedVariables false
namespace Mine
open PySem PySem.W PySem.Calls PyProof.Rows



@[reducible] noncomputable def pw : Program := PySem.Challenge.pw_no0078_01
@[reducible] noncomputable def pv : Program := view
@[reducible] noncomputable def lo : List Str := looseW view [Str.ofString "BOUNDS"]

theorem keys_eq (P : Params) : (hd.heap_1 P).map (·.1) = [2, 3, 15, 17, 18, 20, 21, 22, 29, 31, 32, 34, 35, 36, 37, 38, 39, 42, 49, 51, 52, 54, 55, 56, 57, 58, 59, 62, 63, 65, 66, 68, 69, 70, 72, 73, 75, 76, 77, 79, 80, 82, 83, 84, 86, 87, 89, 90, 91, 93, 94, 96, 97, 105, 107, 108, 110, 111, 112, 114, 115, 117, 118, 119, 121, 122, 124, 125, 126, 128, 129, 131, 132, 133, 135, 136, 138, 139, 140, 142, 143, 145, 146, 147, 148, 149, 150, 151, 154, 155, 156, 157, 158, 159, 160, 161, 162, 163, 164, 165, 166, 167, 168, 169, 170, 171, 172, 173, 174, 175, 176, 177, 178, 179, 180, 181, 182, 183, 184, 185, 186, 187, 188, 189, 190, 191, 192, 194, 195, 197, 198, 199, 201, 202, 204, 205, 206, 209, 210, 211, 213, 214, 216, 217, 218, 220, 221, 223, 224, 225, 227, 228, 230, 231, 232, 234, 235, 237, 238, 239, 241, 242, 244, 245, 246, 248, 249, 251, 252, 253, 255, 256, 258, 259, 260, 262, 263, 265, 266, 267, 269, 270, 272, 273, 274, 276, 277, 279, 280, 281, 283, 284, 286, 287, 288, 290, 291, 293, 294, 295, 298, 299, 300, 302, 303, 305, 306, 307, 309, 310, 312, 313, 314, 316, 317, 319, 320, 321, 324, 325, 326, 328, 329, 331, 332, 333, 335, 336, 338, 339, 340, 342, 343, 345, 346, 347, 350, 351] := by rfl

theorem lookup_key {a : Addr} {o : Obj} : ∀ {K : Frag}, K.lookup a = some o → a ∈ K.map (·.1)
  | [], h => by cases h
  | (b, x) :: r, h => by
    rw [List.lookup_cons] at h
    by_cases e : (a == b) = true
    · rw [List.map_cons, beq_iff_eq.mp e]; exact List.mem_cons_self ..
    · rw [List.map_cons]
      refine List.mem_cons_of_mem _ (lookup_key (o := o) ?_)
      simpa [e] using h

theorem key_low {P : Params} {a : Addr} {o : Obj} (e : (hd.heap_1 P).lookup a = some o) : a < 352 ∧ a ≠ 348 := by
  have m := lookup_key e
  rw [keys_eq] at m
  have q : ([2, 3, 15, 17, 18, 20, 21, 22, 29, 31, 32, 34, 35, 36, 37, 38, 39, 42, 49, 51, 52, 54, 55, 56, 57, 58, 59, 62, 63, 65, 66, 68, 69, 70, 72, 73, 75, 76, 77, 79, 80, 82, 83, 84, 86, 87, 89, 90, 91, 93, 94, 96, 97, 105, 107, 108, 110, 111, 112, 114, 115, 117, 118, 119, 121, 122, 124, 125, 126, 128, 129, 131, 132, 133, 135, 136, 138, 139, 140, 142, 143, 145, 146, 147, 148, 149, 150, 151, 154, 155, 156, 157, 158, 159, 160, 161, 162, 163, 164, 165, 166, 167, 168, 169, 170, 171, 172, 173, 174, 175, 176, 177, 178, 179, 180, 181, 182, 183, 184, 185, 186, 187, 188, 189, 190, 191, 192, 194, 195, 197, 198, 199, 201, 202, 204, 205, 206, 209, 210, 211, 213, 214, 216, 217, 218, 220, 221, 223, 224, 225, 227, 228, 230, 231, 232, 234, 235, 237, 238, 239, 241, 242, 244, 245, 246, 248, 249, 251, 252, 253, 255, 256, 258, 259, 260, 262, 263, 265, 266, 267, 269, 270, 272, 273, 274, 276, 277, 279, 280, 281, 283, 284, 286, 287, 288, 290, 291, 293, 294, 295, 298, 299, 300, 302, 303, 305, 306, 307, 309, 310, 312, 313, 314, 316, 317, 319, 320, 321, 324, 325, 326, 328, 329, 331, 332, 333, 335, 336, 338, 339, 340, 342, 343, 345, 346, 347, 350, 351] : List Nat).all (fun a => Nat.blt a 352 && !(Nat.beq a 348)) = true := by decide +kernel
  have z := List.all_eq_true.mp q a m
  simp only [Bool.and_eq_true, Bool.not_eq_true'] at z
  refine ⟨Nat.le_of_ble_eq_true z.1, fun h => ?_⟩
  subst h
  exact absurd z.2 (by decide)

structure Ct where
  B : Heap
  w : World
  mg : Str → Option Value
  mb : Str → Option Value

abbrev Kd := Obj → Prop
noncomputable def At (h : Heap) (a : Addr) (k : Kd) : Prop := ∃ o, h.get? a = some o ∧ k o
theorem At.lt {h : Heap} {a : Addr} {k : Kd} (x : At h a k) : a < h.objs.size := let ⟨_, e, _⟩ := x; Heap.lt_size e
theorem At.nn {h : Heap} {a : Addr} {k : Kd} (x : At h a k) (n : h.get? a = none) : False := by
  obtain ⟨o, e, _⟩ := x
  rw [n] at e; cases e
theorem nn_of {h : Heap} {a : Addr} {o : Obj} (e : h.get? a = some o) (n : h.get? a = none) : False := by rw [n] at e; cases e
theorem new_size (h : Heap) : h.get? h.objs.size = none := Heap.get?_none_of_le (Nat.le_refl _)

/-- the heap is kept but for the addresses D and the slots of the frames Fs -/
noncomputable def Ext (c : Ct) (D Fs : List Addr) (h h' : Heap) : Prop :=
  ∀ b o, h.get? b = some o → ∃ o', h'.get? b = some o' ∧
    (c.B.get? b ≠ none → b ≠ 348 → o' = o) ∧ (b ∉ D → b ∉ Fs → o' = o) ∧ (b ∈ Fs → o' = { o with slots := o'.slots })

theorem Ext.refl (c : Ct) (D Fs : List Addr) (h : Heap) : Ext c D Fs h h :=
  fun b o e => ⟨o, e, fun _ _ => rfl, fun _ _ => rfl, fun _ => rfl⟩

theorem Ext.low {c : Ct} {D Fs : List Addr} {h h' : Heap} (x : Ext c D Fs h h') {b : Addr} {o : Obj} (e : h.get? b = some o) (l : c.B.get? b ≠ none) (n : b ≠ 348) : h'.get? b = some o := by
  obtain ⟨o', e', h1, _⟩ := x b o e
  rw [h1 l n] at e'; exact e'
theorem Ext.same {c : Ct} {D Fs : List Addr} {h h' : Heap} (x : Ext c D Fs h h') {b : Addr} {o : Obj} (e : h.get? b = some o) (d : b ∉ D) (f : b ∉ Fs) : h'.get? b = some o := by
  obtain ⟨o', e', _, h2, _⟩ := x b o e
  rw [h2 d f] at e'; exact e'
theorem Ext.live {c : Ct} {D Fs : List Addr} {h h' : Heap} (x : Ext c D Fs h h') {b : Addr} {o : Obj} (e : h.get? b = some o) : ∃ o', h'.get? b = some o' := let ⟨o', e', _⟩ := x b o e; ⟨o', e'⟩
theorem Ext.new {c : Ct} {D Fs : List Addr} {h h' : Heap} (x : Ext c D Fs h h') {b : Addr} (n : h'.get? b = none) : h.get? b = none := by
  cases q : h.get? b with
  | none => rfl
  | some o =>
    obtain ⟨o', e⟩ := x.live q
    exact (nn_of e n).elim
theorem Ext.at {c : Ct} {D Fs : List Addr} {h h' : Heap} (x : Ext c D Fs h h') {b : Addr} {k : Kd} (e : At h b k) (d : b ∉ D) (f : b ∉ Fs) : At h' b k :=
  let ⟨o, e, q⟩ := e; ⟨o, x.same e d f, q⟩
theorem Ext.frame {c : Ct} {D Fs : List Addr} {h h' : Heap} (x : Ext c D Fs h h') {b : Addr} {o : Obj} (e : h.get? b = some o) (f : b ∈ Fs) : ∃ sl, h'.get? b = some { o with slots := sl } := by
  obtain ⟨o', e', _, _, h3⟩ := x b o e
  exact ⟨o'.slots, by rw [e', ← h3 f]⟩

theorem Ext.step {c : Ct} {D Fs D' Fs' : List Addr} {h0 h h' : Heap} (x : Ext c D Fs h0 h) (y : Ext c D' Fs' h h') (hD : ∀ b ∈ D', b ∈ D ∨ h0.get? b = none) (hF : ∀ b ∈ Fs', b ∈ Fs ∨ h0.get? b = none)
    (hDF : ∀ b ∈ D', b ∉ Fs) : Ext c D Fs h0 h' := by
  refine fun b o e => ?_
  obtain ⟨o1, e1, a1, a2, a3⟩ := x b o e
  obtain ⟨o2, e2, b1, b2, b3⟩ := y b o1 e1
  refine ⟨o2, e2, fun l n => (b1 l n).trans (a1 l n), fun d f => ?_, fun f => ?_⟩
  · have d' : b ∉ D' := fun q => (hD b q).elim d (nn_of e)
    have f' : b ∉ Fs' := fun q => (hF b q).elim f (nn_of e)
    exact (b2 d' f').trans (a2 d f)
  · have h1 := a3 f
    by_cases f' : b ∈ Fs'
    · have h2 := b3 f'
      rw [h2, h1]
    · have h2 := b2 (fun q => hDF b q f) f'
      rw [h2]; exact h1

/-- a step that keeps all -/
theorem Ext.keep {c : Ct} {D Fs : List Addr} {h0 h h' : Heap} (x : Ext c D Fs h0 h) (hk : ∀ b o, h.get? b = some o → h'.get? b = some o) : Ext c D Fs h0 h' := by
  refine x.step (D' := []) (Fs' := []) (fun b o e => ⟨o, hk b o e, fun _ _ => rfl, fun _ _ => rfl, fun h => nomatch h⟩) (fun _ h => nomatch h) (fun _ h => nomatch h) (fun _ h => nomatch h)

structure G (c : Ct) (h : Heap) : Prop where
  X : (hd.heap_1 c.w.params).In h
  T : TopRead pv lo c.mg c.mb h
  kb : (hd.heap_1 c.w.params).In c.B
  b0 : c.B.get? builtinsNs ≠ none
  n1 : ∀ b o, c.B.get? b = some o → ∃ o', h.get? b = some o'

theorem G.new {c : Ct} {h : Heap} (g : G c h) {b : Addr} (n : h.get? b = none) : c.B.get? b = none := by
  cases q : c.B.get? b with
  | none => rfl
  | some o =>
    obtain ⟨o', e⟩ := g.n1 b o q
    exact (nn_of e n).elim

theorem ns_low {c : Ct} {D Fs : List Addr} {h h' : Heap} (x : Ext c D Fs h h') {b : Addr} {m : Str → Option Value} (n : h.Ns b m) (l : c.B.get? b ≠ none) (ne : b ≠ 348) : h'.Ns b m :=
  let ⟨o, es, ep, e, r⟩ := n; ⟨o, es, ep, x.low e l ne, r⟩
theorem lookup_mem {a : Addr} : ∀ {K : Frag}, a ∈ K.map (·.1) → ∃ o, K.lookup a = some o
  | [], h => nomatch h
  | (b, x) :: r, h => by
    rw [List.lookup_cons]
    by_cases e : (a == b) = true
    · exact ⟨x, by rw [e]⟩
    · rw [List.map_cons] at h
      rcases List.mem_cons.mp h with q | q
      · exact absurd (beq_iff_eq.mpr q) e
      · obtain ⟨o, ho⟩ := lookup_mem (K := r) q
        exact ⟨o, by rw [Bool.eq_false_iff.mpr e]; exact ho⟩
theorem G.low {c : Ct} {h : Heap} (g : G c h) {a : Addr} (hm : ((hd.heap_1 c.w.params).map (·.1)).elem a = true) : c.B.get? a ≠ none := by
  obtain ⟨o, ho⟩ := lookup_mem (List.elem_iff.mp hm)
  rw [g.kb _ _ ho]; exact fun h => nomatch h
theorem G.ext {c : Ct} {D Fs : List Addr} {h h' : Heap} (g : G c h) (x : Ext c D Fs h h') : G c h' := by
  refine ⟨fun a o e => ?_, ⟨?_, ?_, ?_, g.T.builtins, g.T.free⟩, g.kb, g.b0, fun b o e => ?_⟩
  · obtain ⟨l, n⟩ := key_low e
    exact x.low (g.X a o e) (by rw [g.kb _ _ e]; exact fun h => nomatch h) n
  · exact ns_low x g.T.g (g.low (by rw [keys_eq]; decide)) (by decide)
  · exact ns_low x g.T.b g.b0 (by decide)
  · obtain ⟨mc, a, b⟩ := g.T.nolimit
    exact ⟨mc, ns_low x a (g.low (by rw [keys_eq]; decide)) (by decide), b⟩
  · obtain ⟨o', e'⟩ := g.n1 b o e
    exact x.live e'

noncomputable def FrOK (c : Ct) (h : Heap) : List Env → Prop
  | [] => True
  | env :: r => env.scope.kind ≠ .module ∧ (∃ L o es ep, env.frame = some L ∧ c.B.get? L = none ∧ h.get? L = some o ∧ o.data = .dict es ep) ∧ FrOK c h r
noncomputable def fsOf (l : List Env) : List Addr := l.filterMap (·.frame)
theorem FrOK.mem {c : Ct} {h : Heap} : ∀ {l : List Env}, FrOK c h l → ∀ b ∈ fsOf l, c.B.get? b = none ∧ ∃ o es ep, h.get? b = some o ∧ o.data = .dict es ep
  | [], _, b, hb => nomatch hb
  | env :: r, ⟨_, ⟨L, o, es, ep, hf, n, e, d⟩, q⟩, b, hb => by
    unfold fsOf at hb
    rw [List.filterMap_cons, hf] at hb
    rcases List.mem_cons.mp hb with rfl | hb
    · exact ⟨n, o, es, ep, e, d⟩
    · exact q.mem b hb
theorem FrOK.of {c : Ct} {h h' : Heap} : ∀ {l : List Env}, FrOK c h l → (∀ b o, b ∈ fsOf l → h.get? b = some o → ∃ o', h'.get? b = some o' ∧ o'.data = o.data) → FrOK c h' l
  | [], _, _ => trivial
  | env :: r, ⟨k, ⟨L, o, es, ep, hf, n, e, d⟩, q⟩, H => by
    have hL : L ∈ fsOf (env :: r) := by unfold fsOf; rw [List.filterMap_cons, hf]; exact List.mem_cons_self ..
    obtain ⟨o', e', d'⟩ := H L o hL e
    refine ⟨k, ⟨L, o', es, ep, hf, n, e', d'.trans d⟩, q.of fun b o hb e => H b o ?_ e⟩
    unfold fsOf at hb ⊢
    rw [List.filterMap_cons, hf]
    exact List.mem_cons_of_mem _ hb
theorem FrOK.ext {c : Ct} {D Fs : List Addr} {h h' : Heap} {l : List Env} (f : FrOK c h l) (x : Ext c D Fs h h') (n : ∀ b ∈ fsOf l, b ∉ D) : FrOK c h' l :=
  f.of fun b o hb e => by
    by_cases q : b ∈ Fs
    · obtain ⟨sl, e'⟩ := x.frame e q
      exact ⟨_, e', rfl⟩
    · exact ⟨o, x.same e (n b hb) q, rfl⟩

structure Cx (c : Ct) (n : Nat) (A : Around) (outer : List Env) (h : Heap) (hv : Option Value) : Prop where
  hd : A.handled = hv
  dp : A.depth + 4 * n < recursionLimit
  un : A.units + 40 * n < cLine
  fr : A.frames = some outer
  ok : FrOK c h outer

abbrev Led := List (Addr × Kd)

structure St (c : Ct) (outer : List Env) (D : List Addr) (h0 : Heap) (L : Addr) (m : Str → Option Value) (led : Led) (h : Heap) : Prop where
  g : G c h
  ext : Ext c D (fsOf outer) h0 h
  n0 : ∀ b o, c.B.get? b = some o → ∃ o', h0.get? b = some o'
  ns : h.Ns L m
  Lf : h0.get? L = none
  nd : (led.map (·.1)).Nodup
  nL : L ∉ led.map (·.1)
  nF : ∀ b ∈ fsOf outer, (∃ o, h0.get? b = some o) ∧ b ∉ led.map (·.1)
  lat : ∀ p ∈ led, At h p.1 p.2
  own : ∀ p ∈ led, p.1 ∈ D ∨ h0.get? p.1 = none
  hi : ∀ p ∈ led, c.B.get? p.1 = none ∨ p.1 = 348
  fo : FrOK c h outer

structure Ret (c : Ct) (Fs : List Addr) (h : Heap) (post news : Led) (h' : Heap) : Prop where
  ext : Ext c (post.map (·.1)) Fs h h'
  pat : ∀ p ∈ post, At h' p.1 p.2
  nat : ∀ p ∈ news, At h' p.1 p.2 ∧ h.get? p.1 = none
  nd : (news.map (·.1)).Nodup

structure Pre (c : Ct) (Fs : List Addr) (h : Heap) (pre : Led) : Prop where
  at_ : ∀ p ∈ pre, At h p.1 p.2
  nd : (pre.map (·.1)).Nodup
  nF : ∀ b ∈ Fs, b ∉ pre.map (·.1)
  hi : ∀ p ∈ pre, c.B.get? p.1 = none ∨ p.1 = 348

section
variable {c : Ct} {outer : List Env} {D : List Addr} {h0 h h' : Heap} {L : Addr} {m m' : Str → Option Value} {led led' pre post news rest : Led}

theorem St.Llv (S : St c outer D h0 L m led h) : ∃ o, h.get? L = some o := let ⟨o, _, _, e, _⟩ := S.ns; ⟨o, e⟩
theorem St.old (S : St c outer D h0 L m led h) {b : Addr} (n : h.get? b = none) : h0.get? b = none := S.ext.new n
theorem St.nB (S : St c outer D h0 L m led h) {b : Addr} (n : h0.get? b = none) : c.B.get? b = none := by
  cases q : c.B.get? b with
  | none => rfl
  | some o =>
    obtain ⟨o', e⟩ := S.n0 b o q
    exact (nn_of e n).elim
theorem St.live (S : St c outer D h0 L m led h) {b : Addr} (m : b ∈ led.map (·.1)) (n : h.get? b = none) : False := by
  obtain ⟨p, hp, e⟩ := List.mem_map.mp m
  exact (S.lat p hp).nn (e ▸ n)
theorem St.Lnew (S : St c outer D h0 L m led h) (n : h.get? L = none) : False := by
  obtain ⟨o, e⟩ := S.Llv
  exact nn_of e n

/-- keeping everything -/
theorem St.keep (S : St c outer D h0 L m led h) (hk : ∀ b o, h.get? b = some o → h'.get? b = some o) : St c outer D h0 L m led h' where
  g := S.g.ext (D := []) (Fs := []) ((Ext.refl c [] [] h).keep hk)
  ext := S.ext.keep hk
  n0 := S.n0
  ns := S.ns.keeps hk
  Lf := S.Lf
  nd := S.nd
  nL := S.nL
  nF := S.nF
  lat := fun p hp => let ⟨o, e, q⟩ := S.lat p hp; ⟨o, hk _ _ e, q⟩
  own := S.own
  hi := S.hi
  fo := S.fo.of fun b o _ e => ⟨o, hk b o e, rfl⟩

/-- a sublist of the ledger, in any order -/
theorem St.sub (S : St c outer D h0 L m led h) (hn : (led'.map (·.1)).Nodup) (hs : ∀ p ∈ led', p ∈ led) : St c outer D h0 L m led' h where
  g := S.g
  ext := S.ext
  n0 := S.n0
  ns := S.ns
  Lf := S.Lf
  nd := hn
  nL := fun q => by obtain ⟨p, hp, e⟩ := List.mem_map.mp q; exact S.nL (List.mem_map.mpr ⟨p, hs p hp, e⟩)
  nF := fun b hb => ⟨(S.nF b hb).1, fun q => by obtain ⟨p, hp, e⟩ := List.mem_map.mp q; exact (S.nF b hb).2 (List.mem_map.mpr ⟨p, hs p hp, e⟩)⟩
  lat := fun p hp => S.lat p (hs p hp)
  own := fun p hp => S.own p (hs p hp)
  hi := fun p hp => S.hi p (hs p hp)
  fo := S.fo
theorem St.perm (S : St c outer D h0 L m led h) (p : led'.Perm led) : St c outer D h0 L m led' h :=
  S.sub ((p.map (·.1)).nodup_iff.mpr S.nd) fun q hq => p.mem_iff.mp hq
theorem St.sublist (S : St c outer D h0 L m led h) (p : led'.Sublist led) : St c outer D h0 L m led' h :=
  S.sub ((p.map (·.1)).nodup S.nd) fun q hq => p.subset hq
/-- weakening of the ledger's words -/
theorem St.weak (S : St c outer D h0 L m led h) (e : led'.map (·.1) = led.map (·.1)) (hs : ∀ p ∈ led', At h p.1 p.2) : St c outer D h0 L m led' h where
  g := S.g
  ext := S.ext
  n0 := S.n0
  ns := S.ns
  Lf := S.Lf
  nd := e ▸ S.nd
  nL := e ▸ S.nL
  nF := e ▸ S.nF
  lat := hs
  own := fun p hp => by
    have : p.1 ∈ led.map (·.1) := e ▸ List.mem_map_of_mem hp
    obtain ⟨q, hq, e'⟩ := List.mem_map.mp this
    exact e' ▸ S.own q hq
  hi := fun p hp => by
    have : p.1 ∈ led.map (·.1) := e ▸ List.mem_map_of_mem hp
    obtain ⟨q, hq, e'⟩ := List.mem_map.mp this
    exact e' ▸ S.hi q hq
  fo := S.fo
theorem St.map (S : St c outer D h0 L m led h) (e : ∀ x, m x = m' x) : St c outer D h0 L m' led h := by
  have : m = m' := funext e
  rw [← this]; exact S

/-- new objects -/
theorem St.more (S : St c outer D h0 L m led h) (hk : ∀ b o, h.get? b = some o → h'.get? b = some o) (hn : ∀ p ∈ news, At h' p.1 p.2 ∧ h.get? p.1 = none) (nd : (news.map (·.1)).Nodup) :
    St c outer D h0 L m (news ++ led) h' := by
  have S' := S.keep hk
  have ge : ∀ b ∈ news.map (·.1), h.get? b = none := fun b hb => by
    obtain ⟨p, hp, e⟩ := List.mem_map.mp hb
    exact e ▸ (hn p hp).2
  refine ⟨S'.g, S'.ext, S'.n0, S'.ns, S'.Lf, ?_, ?_, ?_, ?_, ?_, ?_, S'.fo⟩
  · rw [List.map_append]
    exact List.nodup_append.mpr ⟨nd, S.nd, fun a ha b hb e => S.live hb (e ▸ ge a ha)⟩
  · rw [List.map_append]
    intro q
    rcases List.mem_append.mp q with q | q
    · exact S.Lnew (ge _ q)
    · exact S.nL q
  · intro b hb
    obtain ⟨⟨o, l⟩, n⟩ := S.nF b hb
    refine ⟨⟨o, l⟩, ?_⟩
    rw [List.map_append]
    intro q
    rcases List.mem_append.mp q with q | q
    · exact nn_of l (S.old (ge _ q))
    · exact n q
  · intro p hp
    rcases List.mem_append.mp hp with hp | hp
    · exact (hn p hp).1
    · exact S'.lat p hp
  · intro p hp
    rcases List.mem_append.mp hp with hp | hp
    · exact .inr (S.old (hn p hp).2)
    · exact S.own p hp
  · intro p hp
    rcases List.mem_append.mp hp with hp | hp
    · exact .inl (S.g.new (hn p hp).2)
    · exact S.hi p hp

theorem St.push (S : St c outer D h0 L m led h) (o : Obj) (k : Kd) (hk : k o) (hf : o.isFreed = false := by rfl) : St c outer D h0 L m ((h.objs.size, k) :: led) (h.push o) := by
  refine S.more (news := [(h.objs.size, k)]) (fun b x e => Heap.get?_push_of_some _ e) (fun p hp => ?_) (by simp)
  rw [List.mem_singleton.mp hp]
  exact ⟨⟨o, Heap.get?_push_size _ hf, hk⟩, new_size h⟩

/-- a local's store -/
theorem St.store (S : St c outer D h0 L m led h) (hn : h'.Ns L m') (hs : Heap.SameBut L h h') : St c outer D h0 L m' led h' := by
  have hF : ∀ b ∈ fsOf outer, b ≠ L := fun b hb e => by
    obtain ⟨⟨o, l⟩, _⟩ := S.nF b hb
    exact nn_of (e ▸ l) S.Lf
  have LN : c.B.get? L = none := S.nB S.Lf
  have same : ∀ b o, b ≠ L → h.get? b = some o → h'.get? b = some o := fun b o ne e => (hs.2 b ne).trans e
  have hg : Ext c [L] [] h h' := by
    refine fun b o e => ?_
    by_cases q : b = L
    · obtain ⟨o', _, _, e', _⟩ := hn
      refine ⟨o', q ▸ e', fun l _ => absurd (q ▸ LN) l, fun d => absurd (List.mem_singleton.mpr q) d, fun h => nomatch h⟩
    · exact ⟨o, same b o q e, fun _ _ => rfl, fun _ _ => rfl, fun h => nomatch h⟩
  refine ⟨S.g.ext hg, S.ext.step hg (fun b hb => .inr (List.mem_singleton.mp hb ▸ S.Lf)) (fun _ h => nomatch h) (fun b hb q => hF b q (List.mem_singleton.mp hb)), S.n0, hn, S.Lf, S.nd, S.nL, S.nF, fun p hp => ?_, S.own, S.hi, ?_⟩
  · obtain ⟨o, e, q⟩ := S.lat p hp
    exact ⟨o, same _ _ (fun z => S.nL (z ▸ List.mem_map_of_mem hp)) e, q⟩
  · exact S.fo.of fun b o hb e => ⟨o, same b o (hF b hb) e, rfl⟩

/-- an update of the ledger's first -/
theorem St.upd' {d : Addr} {k k' : Kd} (S : St c outer D h0 L m ((d, k) :: led) h) (hs : ∀ b o, b ≠ d → h.get? b = some o → h'.get? b = some o) (hd : At h' d k') : St c outer D h0 L m ((d, k') :: led) h' := by
  have dn : d ∉ led.map (·.1) := (List.nodup_cons.mp S.nd).1
  have dL : d ≠ L := fun e => S.nL (e ▸ List.mem_cons_self ..)
  have dF : ∀ b ∈ fsOf outer, b ≠ d := fun b hb e => (S.nF b hb).2 (e ▸ List.mem_cons_self ..)
  have same := hs
  have hg : Ext c [d] [] h h' := by
    refine fun b o e => ?_
    by_cases q : b = d
    · obtain ⟨o', e', _⟩ := hd
      refine ⟨o', q ▸ e', fun l n => ?_, fun z => absurd (List.mem_singleton.mpr q) z, fun h => nomatch h⟩
      rcases S.hi (d, k) (List.mem_cons_self ..) with z | z
      · exact absurd (q ▸ z) l
      · exact absurd (q.trans z) n
    · exact ⟨o, same b o q e, fun _ _ => rfl, fun _ _ => rfl, fun h => nomatch h⟩
  have own := S.own (d, k) (List.mem_cons_self ..)
  refine ⟨S.g.ext hg, S.ext.step hg (fun b hb => List.mem_singleton.mp hb ▸ own) (fun _ h => nomatch h) (fun b hb q => dF b q (List.mem_singleton.mp hb)), S.n0, ?_, S.Lf, S.nd, S.nL, S.nF, fun p hp => ?_, fun p hp => ?_, fun p hp => ?_, ?_⟩
  · obtain ⟨o, es, ep, e, r⟩ := S.ns
    exact ⟨o, es, ep, same _ _ dL.symm e, r⟩
  · rcases List.mem_cons.mp hp with rfl | hp
    · exact hd
    · obtain ⟨o, e, q⟩ := S.lat p (List.mem_cons_of_mem _ hp)
      exact ⟨o, same _ _ (fun z => dn (z ▸ List.mem_map_of_mem hp)) e, q⟩
  · rcases List.mem_cons.mp hp with rfl | hp
    · exact own
    · exact S.own p (List.mem_cons_of_mem _ hp)
  · rcases List.mem_cons.mp hp with rfl | hp
    · exact S.hi (d, k) (List.mem_cons_self ..)
    · exact S.hi p (List.mem_cons_of_mem _ hp)
  · exact S.fo.of fun b o hb e => ⟨o, same b o (dF b hb) e, rfl⟩
theorem St.upd {d : Addr} {k k' : Kd} (S : St c outer D h0 L m ((d, k) :: led) h) (hs : Heap.SameBut d h h') (hd : At h' d k') : St c outer D h0 L m ((d, k') :: led) h' :=
  S.upd' (fun b o ne e => (hs.2 b ne).trans e) hd

/-- back from a call that had the ledger's first part -/
theorem St.ret (S : St c outer D h0 L m (pre ++ rest) h) (R : Ret c (L :: fsOf outer) h post news h') (e : post.map (·.1) = pre.map (·.1)) : St c outer D h0 L m (news ++ (post ++ rest)) h' := by
  have hD : ∀ b ∈ post.map (·.1), b ∈ (pre ++ rest).map (·.1) := fun b hb => by rw [List.map_append]; exact List.mem_append_left _ (e ▸ hb)
  have hF : ∀ b ∈ fsOf outer, b ∉ post.map (·.1) := fun b hb q => (S.nF b hb).2 (hD b q)
  have ndr : (post.map (·.1)).Nodup ∧ (rest.map (·.1)).Nodup ∧ ∀ a ∈ post.map (·.1), ∀ b ∈ rest.map (·.1), a ≠ b := by
    have z := S.nd
    rw [List.map_append, ← e] at z
    exact List.nodup_append.mp z
  have ge : ∀ b ∈ news.map (·.1), h.get? b = none := fun b hb => by
    obtain ⟨p, hp, e⟩ := List.mem_map.mp hb
    exact e ▸ (R.nat p hp).2
  have eqm : (post ++ rest).map (·.1) = (pre ++ rest).map (·.1) := by rw [List.map_append, List.map_append, e]
  have own : ∀ b ∈ (pre ++ rest).map (·.1), b ∈ D ∨ h0.get? b = none := fun b hb => by
    obtain ⟨p, hp, e⟩ := List.mem_map.mp hb
    exact e ▸ S.own p hp
  have hi : ∀ b ∈ (pre ++ rest).map (·.1), c.B.get? b = none ∨ b = 348 := fun b hb => by
    obtain ⟨p, hp, e⟩ := List.mem_map.mp hb
    exact e ▸ S.hi p hp
  refine ⟨S.g.ext R.ext, S.ext.step R.ext (fun b hb => own b (hD b hb)) (fun b hb => ?_) (fun b hb q => hF b q hb), S.n0, ?_, S.Lf, ?_, ?_, ?_, ?_, ?_, ?_, ?_⟩
  · rcases List.mem_cons.mp hb with rfl | hb
    · exact .inr S.Lf
    · exact .inl hb
  · obtain ⟨o, es, ep, eo, d, r⟩ := S.ns
    obtain ⟨sl, e'⟩ := R.ext.frame eo (List.mem_cons_self ..)
    exact ⟨_, es, ep, e', d, r⟩
  · rw [List.map_append, eqm]
    exact List.nodup_append.mpr ⟨R.nd, S.nd, fun a ha b hb e => S.live hb (e ▸ ge a ha)⟩
  · rw [List.map_append, eqm]
    intro q
    rcases List.mem_append.mp q with q | q
    · exact S.Lnew (ge _ q)
    · exact S.nL q
  · intro b hb
    obtain ⟨⟨o, l⟩, n⟩ := S.nF b hb
    refine ⟨⟨o, l⟩, ?_⟩
    rw [List.map_append, eqm]
    intro q
    rcases List.mem_append.mp q with q | q
    · exact nn_of l (S.old (ge _ q))
    · exact n q
  · intro p hp
    rcases List.mem_append.mp hp with hp | hp
    · exact (R.nat p hp).1
    · rcases List.mem_append.mp hp with hp | hp
      · exact R.pat p hp
      · have hm : p.1 ∈ rest.map (·.1) := List.mem_map_of_mem hp
        refine R.ext.at (S.lat p (List.mem_append_right _ hp)) (fun q => ndr.2.2 _ q _ hm rfl) (fun q => ?_)
        have hm' : p.1 ∈ (pre ++ rest).map (·.1) := by rw [List.map_append]; exact List.mem_append_right _ hm
        rcases List.mem_cons.mp q with z | q
        · exact S.nL (z ▸ hm')
        · exact (S.nF _ q).2 hm'
  · intro p hp
    rcases List.mem_append.mp hp with hp | hp
    · exact .inr (S.old (R.nat p hp).2)
    · exact own _ (eqm ▸ List.mem_map_of_mem hp)
  · intro p hp
    rcases List.mem_append.mp hp with hp | hp
    · exact .inl (S.g.new (R.nat p hp).2)
    · exact hi _ (eqm ▸ List.mem_map_of_mem hp)
  · exact S.fo.ext R.ext hF

/-- what a call hands back at its end -/
theorem St.done (S : St c outer D h0 L m (post ++ news) h) (e : post.map (·.1) = D) : Ret c (fsOf outer) h0 post news h := by
  have z := S.nd
  rw [List.map_append] at z
  obtain ⟨n1, n2, n3⟩ := List.nodup_append.mp z
  refine ⟨e ▸ S.ext, fun p hp => S.lat p (List.mem_append_left _ hp), fun p hp => ⟨S.lat p (List.mem_append_right _ hp), ?_⟩, n2⟩
  rcases S.own p (List.mem_append_right _ hp) with q | q
  · exact absurd rfl (n3 _ (e ▸ q) _ (List.mem_map_of_mem hp))
  · exact q

theorem St.toPre (S : St c outer D h0 L m (pre ++ rest) h) : Pre c (L :: fsOf outer) h pre := by
  have z := S.nd
  rw [List.map_append] at z
  refine ⟨fun p hp => S.lat p (List.mem_append_left _ hp), (List.nodup_append.mp z).1, fun b hb q => ?_, fun p hp => S.hi p (List.mem_append_left _ hp)⟩
  have hm : b ∈ (pre ++ rest).map (·.1) := by rw [List.map_append]; exact List.mem_append_left _ q
  rcases List.mem_cons.mp hb with rfl | hb
  · exact S.nL hm
  · exact (S.nF b hb).2 hm
end
end Mine

-- L2
set_option maxRecDepth 100000
set_option Elab.async false
set_option linter.unusedVariables false
namespace Mine
open PySem PySem.W PySem.Calls PyProof.Rows

noncomputable def Mk (s : Shared) (h : Heap) (t : Nat) : Shared := { s with heap := h, toks := t }

/-- kinds of the ledger's objects -/
noncomputable def Lst (xs : List Value) : Kd := fun o => o.cls = .type "list" ∧ ∃ n, o.data = .seq xs.toArray n
noncomputable def Tup (xs : List Value) : Kd := fun o => o.cls = .type "tuple" ∧ ∃ n, o.data = .seq xs.toArray n
noncomputable def Dct (c : Ct) (kvs : List (Str × Value)) : Kd := fun o => o.IsDictOf (strKind pw c.w) kvs
noncomputable def DctI (c : Ct) (kvs : List (Int × Value)) : Kd := fun o => o.IsDictOf (intKind pw c.w) kvs
noncomputable def Ba (bs : Array UInt8) : Kd := fun o => o.cls = .type "bytearray" ∧ o.data = .bytearray bs 0
noncomputable def Ob (x : Obj) : Kd := fun o => o = x

theorem At.list {h : Heap} {a : Addr} {xs : List Value} (x : At h a (Lst xs)) : h.IsList a xs.toArray := let ⟨o, e, c, n, d⟩ := x; ⟨o, e, c, n, d⟩
theorem At.ofList {h : Heap} {a : Addr} {xs : List Value} (x : h.IsList a xs.toArray) : At h a (Lst xs) := let ⟨o, e, c, n, d⟩ := x; ⟨o, e, c, n, d⟩
theorem At.tup {h : Heap} {a : Addr} {xs : List Value} (x : At h a (Tup xs)) : IsTup h a xs.toArray := let ⟨o, e, c, n, d⟩ := x; ⟨o, e, c, n, d⟩
theorem At.ofTup {h : Heap} {a : Addr} {xs : List Value} (x : IsTup h a xs.toArray) : At h a (Tup xs) := let ⟨o, e, c, n, d⟩ := x; ⟨o, e, c, n, d⟩
theorem At.dct {c : Ct} {h : Heap} {a : Addr} {kvs : List (Str × Value)} (x : At h a (Dct c kvs)) : h.DictOf (strKind pw c.w) a kvs := Heap.dictOf_iff.mpr x
theorem At.ofDct {c : Ct} {h : Heap} {a : Addr} {kvs : List (Str × Value)} (x : h.DictOf (strKind pw c.w) a kvs) : At h a (Dct c kvs) := Heap.dictOf_iff.mp x
theorem At.dctI {c : Ct} {h : Heap} {a : Addr} {kvs : List (Int × Value)} (x : At h a (DctI c kvs)) : h.DictOf (intKind pw c.w) a kvs := Heap.dictOf_iff.mpr x
theorem At.ofDctI {c : Ct} {h : Heap} {a : Addr} {kvs : List (Int × Value)} (x : h.DictOf (intKind pw c.w) a kvs) : At h a (DctI c kvs) := Heap.dictOf_iff.mp x

section
variable {c : Ct} {outer : List Env} {D : List Addr} {h0 h h' : Heap} {L : Addr} {m m' : Str → Option Value} {led led' post news rest : Led}

theorem St.head {a : Addr} {k : Kd} (S : St c outer D h0 L m ((a, k) :: led) h) : At h a k := S.lat _ (List.mem_cons_self ..)
theorem St.second {a b : Addr} {k l : Kd} (S : St c outer D h0 L m ((b, l) :: (a, k) :: led) h) : At h a k := S.lat _ (List.mem_cons_of_mem _ (List.mem_cons_self ..))
theorem St.get {a : Addr} {k : Kd} (S : St c outer D h0 L m led h) (i : Nat) (e : led[i]? = some (a, k)) : At h a k := S.lat _ (List.mem_of_getElem? e)

/-- bring the i-th to the front -/
theorem St.front (S : St c outer D h0 L m led h) (i : Nat) {p : Addr × Kd} (e : led[i]? = some p) : St c outer D h0 L m (p :: led.eraseIdx i) h := by
  refine S.perm ?_
  obtain ⟨hl, rfl⟩ := List.getElem?_eq_some_iff.mp e
  rw [List.eraseIdx_eq_take_drop_succ]
  have : led = led.take i ++ led[i] :: led.drop (i + 1) := by rw [← List.drop_eq_getElem_cons hl, List.take_append_drop]
  exact (List.perm_middle.symm.trans (List.Perm.of_eq this.symm) : _)
theorem St.drop (S : St c outer D h0 L m led h) (n : Nat) : St c outer D h0 L m (led.drop n) h := S.sublist (List.drop_sublist n led)
theorem St.keepN (S : St c outer D h0 L m led h) (n : Nat) : St c outer D h0 L m (led.take n) h := S.sublist (List.take_sublist n led)

theorem FrOK.lv (f : FrOK c h outer) : ∀ b ∈ fsOf outer, ∃ o, h.get? b = some o := fun b hb => let ⟨_, o, _, _, e, _⟩ := f.mem b hb; ⟨o, e⟩
end

section
variable {M : Model} {c : Ct} {n : Nat} {outer : List Env} {D : List Addr} {h0 h h' : Heap} {L a : Addr} {m m' : Str → Option Value} {led led' post news rest : Led} {A : Around} {E : Value → Shared → Prop} {s : Shared} {t : Nat} {name : Str} {scope : Scope} {cd : Value} {cY : List (Str × Addr)} {hv : Option Value}

/-- a def's surroundings: its own names' frame L, its cells cx -/
noncomputable def envY (name : Str) (scope : Scope) (L a : Addr) (cd : Value) (cx : List (Str × Addr)) : Env := envX name scope L a cd cx
/-- entering a def -/
theorem enter {f : Addr} {args : List Value} {binds : List (Str × Value)} {pre : Led} {Q : Value → Shared → Prop} {nm qual : Str} {params : Arguments} {body : List Stmt} {dV kV doc pm cdv ct oc : Value} {an od : Option Addr} {osl : Array (Option Value)}
    (C : Cx c (n + 1) A outer h hv) (g : G c h) (P : Pre c (fsOf outer) h pre)
    (ho : (hd.heap_1 c.w.params).lookup f = some ⟨oc, od, .func (fnOf nm qual params body scope dV kV doc pm an cdv ct), osl⟩)
    (hcd : codeIn (hd.heap_1 c.w.params) cdv qual = true)
    (hbind : bindArgs (fnOf nm qual params body scope dV kV doc pm an cdv ct) ⟨args, []⟩ = pure binds)
    (hloc : (binds.all fun x => decide (scope.names.lookup x.1 = some .local)) = true)
    (hcell : ∀ x ∈ scope.names, x.2 ≠ .cell)
    (H : ∀ L h1 t1, St c outer (pre.map (·.1)) h L (fun x => binds.reverse.lookup x) pre h1 → Cx c n (A.deeper (envY qual scope L f cdv [])) (envY qual scope L f cdv [] :: outer) h1 hv →
      wpAny (model pw c.w) (A.deeper (envY qual scope L f cdv [])) (execs body (envY qual scope L f cdv [])) (fun fl s' => Q (match fl with | .ret v => v | _ => .none) s')
        (fun e s' => wpAny (model pw c.w) (A.deeper (envY qual scope L f cdv [])) (leaving (envY qual scope L f cdv []) e) (fun _ s'' => E e s'') (fun e' s'' => E e' s'') s') (Mk s h1 t1))
    (hco : scope.isCoroutine = false := by with_unfolding_all rfl) (hgen : scope.isGenerator = false := by with_unfolding_all rfl) (hk : scope.kind = .function := by with_unfolding_all rfl) :
    wpAny (model pw c.w) A (call (.ref f) args) Q E (Mk s h t) := by
  refine wpAny_call (codeAny_call_def (fd := fnOf nm qual params body scope dV kV doc pm an cdv ct) (body := body) (binds := binds) (s := Mk s h t) ?_ (g.X _ _ ho) rfl g.T.nolimit (codeRec_of g.X hcd) rfl (BindsTo.of_eq hbind) hcell (locs hloc) (fun h1 hns hk1 => ?_) hco hgen hk)
  · have := C.dp; (first | lia | omega)
  · have g1 : G c h1 := g.ext (D := []) (Fs := []) ((Ext.refl c [] [] h).keep hk1)
    have S : St c outer (pre.map (·.1)) h h.objs.size (fun x => binds.reverse.lookup x) pre h1 := by
      refine ⟨g1, (Ext.refl c _ _ h).keep hk1, g.n1, hns, new_size h, P.nd, fun q => ?_, fun b hb => ⟨C.ok.lv b hb, P.nF b hb⟩, fun p hp => ?_, fun p hp => .inl (List.mem_map_of_mem hp), P.hi, C.ok.of fun b o _ e => ⟨o, hk1 b o e, rfl⟩⟩
      · obtain ⟨p, hp, e⟩ := List.mem_map.mp q
        exact absurd (P.at_ p hp).lt (by rw [e]; exact Nat.lt_irrefl _)
      · obtain ⟨o, e, q⟩ := P.at_ p hp
        exact ⟨o, hk1 _ _ e, q⟩
    have C1 : Cx c n (A.deeper (envY qual scope h.objs.size f cdv [])) (envY qual scope h.objs.size f cdv [] :: outer) h1 hv := by
      refine ⟨C.hd, ?_, ?_, ?_, ?_, ?_, S.fo⟩
      · show A.depth + 1 + 4 * n < recursionLimit
        have := C.dp; (first | lia | omega)
      · show A.units + 3 + 40 * n < cLine
        have := C.un; (first | lia | omega)
      · show A.frames.map _ = _
        rw [C.fr]; rfl
      · show scope.kind ≠ .module
        rw [hk]; exact fun e => by cases e
      · obtain ⟨o, es, ep, e, d, _⟩ := hns
        exact ⟨h.objs.size, o, es, ep, rfl, g.new (new_size h), e, d⟩
    exact H h.objs.size h1 (t + binds.length) S C1

theorem x_loc {x : Str} {pos : Pos} {v : Value} {Q : Value → Shared → Prop} (S : St c outer D h0 L m led h) (hv : m x = some v) (H : Q v (Mk s h t))
    (hk : scope.kind = .function := by with_unfolding_all rfl) (hl : (envY name scope L a cd cY).kindOf x = some .local := by with_unfolding_all rfl) (hd : (x == ("__debug__" : Str)) = false := by decide) :
    wpAny M A (eval (.Name x pos) (envY name scope L a cd cY)) Q E (Mk s h t) := wpAny_Name (wpAny_loadName_local hk hl S.ns hv H) hd
theorem x_glob {x : Str} {pos : Pos} {v : Value} {Q : Value → Shared → Prop} (S : St c outer D h0 L m led h) (hv : c.mg x = some v) (H : Q v (Mk s h t))
    (hk : scope.kind = .function := by with_unfolding_all rfl) (hx : (envY name scope L a cd cY).kindOf x = some .globalImplicit := by with_unfolding_all rfl) (hd : (x == ("__debug__" : Str)) = false := by decide) :
    wpAny M A (eval (.Name x pos) (envY name scope L a cd cY)) Q E (Mk s h t) := Name_function_global hk hx (loadGlobal_global (env := envY name scope L a cd cY) S.g.T.g hv H) hd
theorem x_blt {x : Str} {pos : Pos} {v : Value} {Q : Value → Shared → Prop} (S : St c outer D h0 L m led h) (hn : c.mg x = none ∧ c.mb x = some v) (H : Q v (Mk s h t))
    (hk : scope.kind = .function := by with_unfolding_all rfl) (hx : (envY name scope L a cd cY).kindOf x = some .globalImplicit := by with_unfolding_all rfl) (hd : (x == ("__debug__" : Str)) = false := by decide) :
    wpAny M A (eval (.Name x pos) (envY name scope L a cd cY)) Q E (Mk s h t) := Name_function_global hk hx (loadGlobal_builtin (env := envY name scope L a cd cY) S.g.T.g hn.1 S.g.T.b hn.2 H) hd
theorem x_store {x : Str} {v : Value} {Q : Unit → Shared → Prop} (S : St c outer D h0 L m led h)
    (H : ∀ h' t', St c outer D h0 L (fun y => if y = x then some v else m y) led h' → Q () (Mk s h' t'))
    (hk : scope.kind = .function := by with_unfolding_all rfl) (hl : (envY name scope L a cd cY).kindOf x = some .local := by with_unfolding_all rfl) :
    wpAny M A (storeName (envY name scope L a cd cY) x v) Q E (Mk s h t) :=
  wpAny_storeName_local hl S.ns (fun h' hn hs => H h' _ (S.store hn hs))
    (by show (scope.kind == .class || (scope.kind == .module && L != mainGlobals)) = false; rw [hk]; rfl)

theorem mg_at (g : G c h) {x : Str} {v : Value} (e : nsIn (hd.heap_1 c.w.params) mainGlobals x = some (some v)) : c.mg x = some v := mg_of g.X g.T.g e
theorem mg_no (g : G c h) {x : Str} (e : nsIn (hd.heap_1 c.w.params) mainGlobals x = some none) : c.mg x = none := mg_none_of g.X g.T.g e
theorem mb_at (g : G c h) {x : Str} {v : Value} (e : nsIn (hd.heap_1 c.w.params) mainGlobals x = some none) (hv : bootBuiltins x = some v) (hn : x ≠ "__name__") : c.mg x = none ∧ c.mb x = some v := ⟨mg_no g e, (g.T.builtins x hn).trans hv⟩
end

section
variable {M : Model} {A : Around} {E : Value → Shared → Prop} {s : Shared} {env : Env} {rest : List Stmt} {Q : Flow → Shared → Prop}

noncomputable def Nx (M : Model) (A : Around) (env : Env) (rest : List Stmt) (Q : Flow → Shared → Prop) (E : Value → Shared → Prop) (f : Flow) (s : Shared) : Prop :=
  match f with
  | .next => wpAny M A (execs rest env) Q E s
  | f => Q f s
theorem x_cons {st : Stmt} (H : wpAny M A (exec st env) (Nx M A env rest Q E) E s) : wpAny M A (execs (st :: rest) env) Q E s := wpAny_execs_cons H
theorem x_nil (H : Q .next s) : wpAny M A (execs [] env) Q E s := wpAny_execs_nil H
theorem x_nilN {env' : Env} {rest' : List Stmt} (H : wpAny M A (execs rest' env') Q E s) : wpAny M A (execs [] env) (Nx M A env' rest' Q E) E s := wpAny_execs_nil H
theorem x_ret {e : Expr} {pos : Pos} (H : wpAny M A (eval e env) (fun v => Q (.ret v)) E s) : wpAny M A (execs (.Return (some e) pos :: rest) env) Q E s :=
  wpAny_execs_cons (wpAny_Return_some H)
theorem x_ret0 {pos : Pos} (H : Q (.ret .none) s) : wpAny M A (execs (.Return none pos :: rest) env) Q E s :=
  wpAny_execs_cons (wpAny_Return_none H)
theorem x_asg {x : Str} {p pos : Pos} {e : Expr} (H : wpAny M A (eval e env) (fun v s₁ => wpAny M A (storeName env x v) (fun _ s₂ => wpAny M A (execs rest env) Q E s₂) E s₁) E s)
    (hs : swapsWith e (some (.Name x p)) pos.line env = pure false := by with_unfolding_all rfl) : wpAny M A (execs (.Assign [.Name x p] e pos :: rest) env) Q E s :=
  wpAny_execs_cons (wpAny_Assign_Name H hs)
theorem x_asgSub {o i : Expr} {p pos : Pos} {e : Expr} (H : wpAny M A (eval e env) (fun v s₁ => wpAny M A (eval o env) (fun ov s₂ => wpAny M A (eval i env) (fun iv s₃ => wpAny M A (setItem ov iv v) (fun _ s₄ => wpAny M A (execs rest env) Q E s₄) E s₃) E s₂) E s₁) E s)
    (hs : swapsWith e (some (.Subscript o i p)) pos.line env = pure false := by with_unfolding_all rfl) : wpAny M A (execs (.Assign [.Subscript o i p] e pos :: rest) env) Q E s :=
  wpAny_execs_cons (wpAny_Assign_Subscript H hs)
theorem x_if {test : Expr} {body orelse : List Stmt} {pos : Pos}
    (H : wpAny M A (isTrue test env (eval test env)) (fun b s₂ => (b = true → wpAny M A (execs body env) (Nx M A env rest Q E) E s₂) ∧ (b = false → wpAny M A (execs orelse env) (Nx M A env rest Q E) E s₂)) E s) :
    wpAny M A (execs (.If test body orelse pos :: rest) env) Q E s := by
  refine wpAny_execs_cons (wpAny_If (wpAny_mono H (fun b s₂ h₂ => ?_) fun _ _ e => e))
  cases b with
  | true => exact h₂.1 rfl
  | false => exact h₂.2 rfl

theorem x_arg {e : Expr} {es : List Expr} {pos : Pos} {Q : List Value → Shared → Prop}
    (H : wpAny M A (eval e env) (fun v s₁ => wpAny M A (spliced (backTo pos (starEach es env))) (fun vs s₂ => Q (v :: vs) s₂) E s₁) E s)
    (he : starEach (e :: es) env = (false, eval e env) :: starEach es env := by with_unfolding_all rfl) : wpAny M A (spliced (backTo pos (starEach (e :: es) env))) Q E s := by
  rw [he]
  exact Calls.spliced_cons H
theorem x_argN {pos : Pos} {Q : List Value → Shared → Prop} (H : Q [] s) : wpAny M A (spliced (backTo pos (starEach [] env))) Q E s := Calls.spliced_nil H

/-- a call by a name -/
theorem x_call {f : Str} {np pos : Pos} {args : List Expr} {Q : Value → Shared → Prop}
    (H : wpAny M A (eval (.Name f np) env) (fun fv s₁ => wpAny M A (callWith pos fv [] (backTo pos (starEach args env)) []) Q E s₁) E s) :
    wpAny M A (eval (.Call (.Name f np) args [] pos) env) Q E s := wpAny_Call_ofName H
theorem x_cw0 {K : Frag} {f : Value} {pos : Pos} {Q : Value → Shared → Prop} (X : K.In s.heap) (hk : keepIn K f = true) (H : wpAny M A (call f []) Q E s) : wpAny M A (callWith pos f [] (backTo pos (starEach [] env)) []) Q E s :=
  callWith_K0 X hk H
theorem x_cw01 {K : Frag} {f v : Value} {pos : Pos} {Q : Value → Shared → Prop} (X : K.In s.heap) (hk : keepIn K f = true) (H : wpAny M A (call f [v]) Q E s) : wpAny M A (callWith pos f [v] (backTo pos (starEach [] env)) []) Q E s :=
  callWith_K0 X hk H
theorem x_cwA {K : Frag} {f : Value} {pos : Pos} {first : List Value} {e : Expr} {es : List Expr} {Q : Value → Shared → Prop} (hk : keepIn K f = true)
    (H : wpAny M A (spliced (backTo pos (starEach (e :: es) env))) (fun vs s₁ => K.In s₁.heap ∧ wpAny M A (call f (first ++ vs)) Q E s₁) E s)
    (he : starEach (e :: es) env = (false, eval e env) :: starEach es env := by with_unfolding_all rfl) (hplain : (backTo pos (starEach es env)).any (·.1) = false := by with_unfolding_all rfl) :
    wpAny M A (callWith pos f first (backTo pos (starEach (e :: es) env)) []) Q E s := by
  rw [he] at H ⊢
  exact callWith_of (by show ((false || (backTo pos (starEach es env)).any (·.1)) || false) = false; rw [hplain]; rfl) (keeps_K hk) (evalArgs_plain H)
theorem x_cw {K : Frag} {f : Value} {pos : Pos} {e : Expr} {es : List Expr} {Q : Value → Shared → Prop} (hk : keepIn K f = true)
    (H : wpAny M A (spliced (backTo pos (starEach (e :: es) env))) (fun vs s₁ => K.In s₁.heap ∧ wpAny M A (call f vs) Q E s₁) E s)
    (he : starEach (e :: es) env = (false, eval e env) :: starEach es env := by with_unfolding_all rfl) (hplain : (backTo pos (starEach es env)).any (·.1) = false := by with_unfolding_all rfl) :
    wpAny M A (callWith pos f [] (backTo pos (starEach (e :: es) env)) []) Q E s := x_cwA hk H he hplain
theorem x_cw1 {K : Frag} {f v : Value} {pos : Pos} {e : Expr} {es : List Expr} {Q : Value → Shared → Prop} (hk : keepIn K f = true)
    (H : wpAny M A (spliced (backTo pos (starEach (e :: es) env))) (fun vs s₁ => K.In s₁.heap ∧ wpAny M A (call f (v :: vs)) Q E s₁) E s)
    (he : starEach (e :: es) env = (false, eval e env) :: starEach es env := by with_unfolding_all rfl) (hplain : (backTo pos (starEach es env)).any (·.1) = false := by with_unfolding_all rfl) :
    wpAny M A (callWith pos f [v] (backTo pos (starEach (e :: es) env)) []) Q E s := x_cwA hk H he hplain
theorem x_cwBA {id : String} {pos : Pos} {first : List Value} {e : Expr} {es : List Expr} {Q : Value → Shared → Prop}
    (H : wpAny M A (spliced (backTo pos (starEach (e :: es) env))) (fun vs s₁ => wpAny M A (call (.builtin id) (first ++ vs)) Q E s₁) E s)
    (he : starEach (e :: es) env = (false, eval e env) :: starEach es env := by with_unfolding_all rfl) (hplain : (backTo pos (starEach es env)).any (·.1) = false := by with_unfolding_all rfl) :
    wpAny M A (callWith pos (.builtin id) first (backTo pos (starEach (e :: es) env)) []) Q E s := by
  rw [he] at H ⊢
  exact callWith_builtin (by show (false || (backTo pos (starEach es env)).any (·.1)) = false; rw [hplain]; rfl) (evalArgs_plain H)
theorem x_cwB {id : String} {pos : Pos} {e : Expr} {es : List Expr} {Q : Value → Shared → Prop}
    (H : wpAny M A (spliced (backTo pos (starEach (e :: es) env))) (fun vs s₁ => wpAny M A (call (.builtin id) vs) Q E s₁) E s)
    (he : starEach (e :: es) env = (false, eval e env) :: starEach es env := by with_unfolding_all rfl) (hplain : (backTo pos (starEach es env)).any (·.1) = false := by with_unfolding_all rfl) :
    wpAny M A (callWith pos (.builtin id) [] (backTo pos (starEach (e :: es) env)) []) Q E s := x_cwBA H he hplain
theorem x_cwB1 {id : String} {v : Value} {pos : Pos} {e : Expr} {es : List Expr} {Q : Value → Shared → Prop}
    (H : wpAny M A (spliced (backTo pos (starEach (e :: es) env))) (fun vs s₁ => wpAny M A (call (.builtin id) (v :: vs)) Q E s₁) E s)
    (he : starEach (e :: es) env = (false, eval e env) :: starEach es env := by with_unfolding_all rfl) (hplain : (backTo pos (starEach es env)).any (·.1) = false := by with_unfolding_all rfl) :
    wpAny M A (callWith pos (.builtin id) [v] (backTo pos (starEach (e :: es) env)) []) Q E s := x_cwBA H he hplain
theorem x_cwB01 {id : String} {v : Value} {pos : Pos} {Q : Value → Shared → Prop} (H : wpAny M A (call (.builtin id) [v]) Q E s) : wpAny M A (callWith pos (.builtin id) [v] (backTo pos (starEach [] env)) []) Q E s := callWith_method0 H
end
end Mine

-- N1
set_option maxRecDepth 100000
set_option Elab.async false
set_option linter.unusedVariables false
namespace Mine
open PySem PySem.W PySem.Calls PyProof.Rows
section
variable {c : Ct} {h : Heap}
theorem g_QuicError (g : G c h) : c.mg (Str.ofString "QuicError") = some (.ref 38) := mg_at g (by rfl)
theorem g_Short (g : G c h) : c.mg (Str.ofString "Short") = some (.ref 58) := mg_at g (by rfl)
theorem g_VARINT_SIZES (g : G c h) : c.mg (Str.ofString "VARINT_SIZES") = some (.ref 62) := mg_at g (by rfl)
theorem g_put_whole (g : G c h) : c.mg (Str.ofString "put_whole") = some (.ref 69) := mg_at g (by rfl)
theorem g_get_whole (g : G c h) : c.mg (Str.ofString "get_whole") = some (.ref 76) := mg_at g (by rfl)
theorem g_varint_size (g : G c h) : c.mg (Str.ofString "varint_size") = some (.ref 83) := mg_at g (by rfl)
theorem g_put_varint (g : G c h) : c.mg (Str.ofString "put_varint") = some (.ref 90) := mg_at g (by rfl)
theorem g_get_varint (g : G c h) : c.mg (Str.ofString "get_varint") = some (.ref 97) := mg_at g (by rfl)
theorem g_Reader (g : G c h) : c.mg (Str.ofString "Reader") = some (.ref 149) := mg_at g (by rfl)
theorem g_PARAM_ROWS (g : G c h) : c.mg (Str.ofString "PARAM_ROWS") = some (.ref 171) := mg_at g (by rfl)
theorem g_OF_SERVER (g : G c h) : c.mg (Str.ofString "OF_SERVER") = some (.ref 172) := mg_at g (by rfl)
theorem g_DEFAULTS (g : G c h) : c.mg (Str.ofString "DEFAULTS") = some (.ref 184) := mg_at g (by rfl)
theorem g_BOUNDS (g : G c h) : c.mg (Str.ofString "BOUNDS") = some (.ref 191) := mg_at g (by rfl)
theorem g_refuse_params (g : G c h) : c.mg (Str.ofString "refuse_params") = some (.ref 198) := mg_at g (by rfl)
theorem g_row_by_number (g : G c h) : c.mg (Str.ofString "row_by_number") = some (.ref 205) := mg_at g (by rfl)
theorem g_put_address (g : G c h) : c.mg (Str.ofString "put_address") = some (.ref 210) := mg_at g (by rfl)
theorem g_put_value (g : G c h) : c.mg (Str.ofString "put_value") = some (.ref 217) := mg_at g (by rfl)
theorem g_put_params (g : G c h) : c.mg (Str.ofString "put_params") = some (.ref 224) := mg_at g (by rfl)
theorem g_read_number (g : G c h) : c.mg (Str.ofString "read_number") = some (.ref 231) := mg_at g (by rfl)
theorem g_read_address (g : G c h) : c.mg (Str.ofString "read_address") = some (.ref 238) := mg_at g (by rfl)
theorem g_read_value (g : G c h) : c.mg (Str.ofString "read_value") = some (.ref 245) := mg_at g (by rfl)
theorem g_read_pairs (g : G c h) : c.mg (Str.ofString "read_pairs") = some (.ref 252) := mg_at g (by rfl)
theorem g_read_params (g : G c h) : c.mg (Str.ofString "read_params") = some (.ref 259) := mg_at g (by rfl)
theorem g_with_defaults (g : G c h) : c.mg (Str.ofString "with_defaults") = some (.ref 266) := mg_at g (by rfl)
theorem g_checked_ids (g : G c h) : c.mg (Str.ofString "checked_ids") = some (.ref 273) := mg_at g (by rfl)
theorem g_law_numbers (g : G c h) : c.mg (Str.ofString "_law_numbers") = some (.ref 280) := mg_at g (by rfl)
theorem g_law_octets (g : G c h) : c.mg (Str.ofString "_law_octets") = some (.ref 287) := mg_at g (by rfl)
theorem g_law_next (g : G c h) : c.mg (Str.ofString "_law_next") = some (.ref 294) := mg_at g (by rfl)
theorem g_law_box (g : G c h) : c.mg (Str.ofString "_law_box") = some (.ref 299) := mg_at g (by rfl)
theorem g_law_varint (g : G c h) : c.mg (Str.ofString "_law_varint") = some (.ref 306) := mg_at g (by rfl)
theorem g_law_pair (g : G c h) : c.mg (Str.ofString "_law_pair") = some (.ref 313) := mg_at g (by rfl)
theorem g_law_number (g : G c h) : c.mg (Str.ofString "_law_number") = some (.ref 320) := mg_at g (by rfl)
theorem g_law_drawn (g : G c h) : c.mg (Str.ofString "_law_drawn") = some (.ref 325) := mg_at g (by rfl)
theorem g_law_due (g : G c h) : c.mg (Str.ofString "_law_due") = some (.ref 332) := mg_at g (by rfl)
theorem g_law_is_refused (g : G c h) : c.mg (Str.ofString "_law_is_refused") = some (.ref 339) := mg_at g (by rfl)
theorem g_law_bent (g : G c h) : c.mg (Str.ofString "_law_bent") = some (.ref 346) := mg_at g (by rfl)
theorem g_INTERNAL_ERROR (g : G c h) : c.mg (Str.ofString "INTERNAL_ERROR") = some (.int 1 196) := mg_at g (by rfl)
theorem g_TRANSPORT_PARAMETER_ERROR (g : G c h) : c.mg (Str.ofString "TRANSPORT_PARAMETER_ERROR") = some (.int 8 198) := mg_at g (by rfl)
theorem g_MOST_ID (g : G c h) : c.mg (Str.ofString "MOST_ID") = some (.int 20 504) := mg_at g (by rfl)
theorem g_TOKEN_SIZE (g : G c h) : c.mg (Str.ofString "TOKEN_SIZE") = some (.int 16 506) := mg_at g (by rfl)
theorem b_len (g : G c h) : c.mg (Str.ofString "len") = none ∧ c.mb (Str.ofString "len") = some (.builtin "len") := mb_at g (by rfl) PyProof.Rows.Boot.«len» (by decide)
theorem b_str (g : G c h) : c.mg (Str.ofString "str") = none ∧ c.mb (Str.ofString "str") = some (.type "str") := mb_at g (by rfl) PyProof.Rows.Boot.«str» (by decide)
theorem b_Exception (g : G c h) : c.mg (Str.ofString "Exception") = none ∧ c.mb (Str.ofString "Exception") = some (.type "Exception") := mb_at g (by rfl) PyProof.Rows.Boot.«Exception» (by decide)
theorem b_bytes (g : G c h) : c.mg (Str.ofString "bytes") = none ∧ c.mb (Str.ofString "bytes") = some (.type "bytes") := mb_at g (by rfl) PyProof.Rows.Boot.«bytes» (by decide)
theorem b_bytearray (g : G c h) : c.mg (Str.ofString "bytearray") = none ∧ c.mb (Str.ofString "bytearray") = some (.type "bytearray") := mb_at g (by rfl) PyProof.Rows.Boot.«bytearray» (by decide)
theorem b_range (g : G c h) : c.mg (Str.ofString "range") = none ∧ c.mb (Str.ofString "range") = some (.type "range") := mb_at g (by rfl) PyProof.Rows.Boot.«range» (by decide)
theorem b_dict (g : G c h) : c.mg (Str.ofString "dict") = none ∧ c.mb (Str.ofString "dict") = some (.type "dict") := mb_at g (by rfl) PyProof.Rows.Boot.«dict» (by decide)
theorem b_list (g : G c h) : c.mg (Str.ofString "list") = none ∧ c.mb (Str.ofString "list") = some (.type "list") := mb_at g (by rfl) PyProof.Rows.Boot.«list» (by decide)
theorem b_sorted (g : G c h) : c.mg (Str.ofString "sorted") = none ∧ c.mb (Str.ofString "sorted") = some (.builtin "sorted") := mb_at g (by rfl) PyProof.Rows.Boot.«sorted» (by decide)
theorem b_enumerate (g : G c h) : c.mg (Str.ofString "enumerate") = none ∧ c.mb (Str.ofString "enumerate") = some (.type "enumerate") := mb_at g (by rfl) PyProof.Rows.Boot.«enumerate» (by decide)
theorem b_abs (g : G c h) : c.mg (Str.ofString "abs") = none ∧ c.mb (Str.ofString "abs") = some (.builtin "abs") := mb_at g (by rfl) PyProof.Rows.Boot.«abs» (by decide)
end
end Mine

-- L3
set_option maxRecDepth 100000
set_option Elab.async false
set_option linter.unusedVariables false
namespace Mine
open PySem PySem.W PySem.Calls PyProof.Rows

section
variable {M : Model} {p : Program} {w : World} {A : Around} {E : Value → Shared → Prop} {s : Shared} {h : Heap} {t : Nat} {env : Env} {a b : Int} {u v : Tok} {pos : Pos} {k : Nat} {Q : Value → Shared → Prop} {R : Bool → Shared → Prop}

theorem i_int {i : Int} (H : ∀ u t', Q (.int i u) (Mk s h t')) : wpAny M A (eval (.Constant (.int i) k pos) env) Q E (Mk s h t) := wpAny_Constant_int (H _ _)
theorem i_str {i : Str} (H : ∀ u t', Q (.str i u) (Mk s h t')) : wpAny M A (eval (.Constant (.str i) k pos) env) Q E (Mk s h t) := wpAny_Constant_str (H _ _)
theorem i_none (H : Q .none (Mk s h t)) : wpAny M A (eval (.Constant .none k pos) env) Q E (Mk s h t) := wpAny_Constant_none H
theorem i_bool {c : Bool} (H : Q (.bool c) (Mk s h t)) : wpAny M A (eval (.Constant (.bool c) k pos) env) Q E (Mk s h t) := wpAny_Constant_bool H
theorem i_bytes {x : List UInt8} (H : ∀ u t', Q (.bytes x.toArray u) (Mk s h t')) : wpAny M A (eval (.Constant (.bytes x) k pos) env) Q E (Mk s h t) := fun _ _ _ => H _ _
theorem i_add (H : ∀ u t', Q (.int (a + b) u) (Mk s h t')) : wpAny (model p w) A (binaryOp .Add (.int a u) (.int b v)) Q E (Mk s h t) := PyProof.Rows.add_int (H _ _)
theorem i_sub (H : ∀ u t', Q (.int (a - b) u) (Mk s h t')) : wpAny (model p w) A (binaryOp .Sub (.int a u) (.int b v)) Q E (Mk s h t) := PyProof.Rows.sub_int (H _ _)
theorem i_mul (H : ∀ u t', Q (.int (a * b) u) (Mk s h t')) (hm : IntMulOk a b) : wpAny (model p w) A (binaryOp .Mult (.int a u) (.int b v)) Q E (Mk s h t) := PyProof.Rows.mul_int (H _ _) hm
theorem i_mod (hb : b ≠ 0) (H : ∀ u t', Q (.int (a.fmod b) u) (Mk s h t')) (hp : Builtin.divisionGoesByPylong a b = false) : wpAny (model p w) A (binaryOp .Mod (.int a u) (.int b v)) Q E (Mk s h t) := PyProof.Rows.mod_int' hb (H _ _)
theorem i_div (hb : b ≠ 0) (H : ∀ u t', Q (.int (a.fdiv b) u) (Mk s h t')) (hp : Builtin.divisionGoesByPylong a b = false) : wpAny (model p w) A (binaryOp .FloorDiv (.int a u) (.int b v)) Q E (Mk s h t) := PyProof.Rows.floordiv_int hb (H _ _) (.inl hp)
theorem i_neg (H : ∀ u t', Q (.int (-a) u) (Mk s h t')) : wpAny (model p w) A (unaryOp .USub (.int a u)) Q E (Mk s h t) := neg_int (H _ _)
theorem i_and (H : ∀ u t', Q (.int (Builtin.bitAnd a b) u) (Mk s h t')) : wpAny (model p w) A (binaryOp .BitAnd (.int a u) (.int b v)) Q E (Mk s h t) := PyProof.Rows.and_int (H _ _)
theorem i_or (H : ∀ u t', Q (.int (Builtin.bitOr a b) u) (Mk s h t')) : wpAny (model p w) A (binaryOp .BitOr (.int a u) (.int b v)) Q E (Mk s h t) := PyProof.Rows.or_int (H _ _)
theorem i_shr (hn : 0 ≤ b) (H : ∀ u t', Q (.int (a.fdiv (2 ^ b.toNat)) u) (Mk s h t')) : wpAny (model p w) A (binaryOp .RShift (.int a u) (.int b v)) Q E (Mk s h t) := PyProof.Rows.rshift_int hn (H _ _)
theorem i_shl (hn : 0 ≤ b) (h2 : b ≤ 1000000) (ha : a.natAbs < 2 ^ 64) (H : ∀ u t', Q (.int (a * 2 ^ b.toNat) u) (Mk s h t')) : wpAny (model p w) A (binaryOp .LShift (.int a u) (.int b v)) Q E (Mk s h t) := PyProof.Rows.lshift_int_small hn h2 ha (H _ _)
theorem i_pow (hn : 0 ≤ b) (h2 : b ≤ 1000000) (ha : a.natAbs < 2 ^ 64) (H : ∀ u t', Q (.int (a ^ b.toNat) u) (Mk s h t')) : wpAny (model p w) A (binaryOp .Pow (.int a u) (.int b v)) Q E (Mk s h t) := PyProof.Rows.pow_int_small hn h2 ha (H _ _)

theorem c_eq (H : Q (.bool (a == b)) (Mk s h t)) : wpAny (model p w) A (compareOp .Eq (.int a u) (.int b v)) Q E (Mk s h t) := eq_int H
theorem c_ne (H : Q (.bool (a != b)) (Mk s h t)) : wpAny (model p w) A (compareOp .NotEq (.int a u) (.int b v)) Q E (Mk s h t) := ne_int H
theorem c_lt (H : Q (.bool (decide (a < b))) (Mk s h t)) : wpAny (model p w) A (compareOp .Lt (.int a u) (.int b v)) Q E (Mk s h t) := lt_int H
theorem c_le (H : Q (.bool (decide (a ≤ b))) (Mk s h t)) : wpAny (model p w) A (compareOp .LtE (.int a u) (.int b v)) Q E (Mk s h t) := le_int H
theorem c_gt (H : Q (.bool (decide (a > b))) (Mk s h t)) : wpAny (model p w) A (compareOp .Gt (.int a u) (.int b v)) Q E (Mk s h t) := gt_int H
theorem c_ge (H : Q (.bool (decide (a ≥ b))) (Mk s h t)) : wpAny (model p w) A (compareOp .GtE (.int a u) (.int b v)) Q E (Mk s h t) := ge_int H
end
theorem lt4 : ∀ i < 4, i = 0 ∨ i = 1 ∨ i = 2 ∨ i = 3 := by decide
theorem lt6 : ∀ i < 6, i = 0 ∨ i = 1 ∨ i = 2 ∨ i = 3 ∨ i = 4 ∨ i = 5 := by decide
theorem lt11 : ∀ i < 11, i = 0 ∨ i = 1 ∨ i = 2 ∨ i = 3 ∨ i = 4 ∨ i = 5 ∨ i = 6 ∨ i = 7 ∨ i = 8 ∨ i = 9 ∨ i = 10 := by decide
theorem lt17 : ∀ i < 17, i = 0 ∨ i = 1 ∨ i = 2 ∨ i = 3 ∨ i = 4 ∨ i = 5 ∨ i = 6 ∨ i = 7 ∨ i = 8 ∨ i = 9 ∨ i = 10 ∨ i = 11 ∨ i = 12 ∨ i = 13 ∨ i = 14 ∨ i = 15 ∨ i = 16 := by decide
theorem ilt4 : ∀ {k : Int}, 0 ≤ k → k < 4 → k = 0 ∨ k = 1 ∨ k = 2 ∨ k = 3
  | .ofNat 0, _, _ => .inl rfl
  | .ofNat 1, _, _ => .inr (.inl rfl)
  | .ofNat 2, _, _ => .inr (.inr (.inl rfl))
  | .ofNat 3, _, _ => .inr (.inr (.inr rfl))
  | .ofNat (n + 4), _, h => absurd h (Int.not_lt.mpr (Int.ofNat_le.mpr (Nat.le_add_left 4 n)))
  | .negSucc n, h, _ => absurd h (Int.not_le.mpr (Int.negSucc_lt_zero n))
theorem ilt3 {k : Int} (h0 : 0 ≤ k) (h : k < 3) : k = 0 ∨ k = 1 ∨ k = 2 := by
  rcases ilt4 h0 (Int.lt_trans h (by decide)) with q | q | q | q
  · exact .inl q
  · exact .inr (.inl q)
  · exact .inr (.inr q)
  · subst q; exact absurd h (by decide)
end Mine

-- L4
set_option maxRecDepth 100000
set_option Elab.async false
set_option linter.unusedVariables false
namespace Mine
open PySem PySem.W PySem.Calls PyProof.Rows

/-- what a flight leaves of the heap -/
noncomputable def Kp (lo : Heap) (Fs : List Addr) (h h' : Heap) : Prop :=
  ∀ b o, lo.get? b ≠ none → h.get? b = some o → (b ∉ Fs → h'.get? b = some o) ∧ (b ∈ Fs → ∃ sl, h'.get? b = some { o with slots := sl })
/-- every address of lo lives in h -/
noncomputable def Lv (lo h : Heap) : Prop := ∀ b, h.get? b = none → lo.get? b = none
theorem Kp.refl (lo : Heap) (Fs : List Addr) (h : Heap) : Kp lo Fs h h := fun b o _ e => ⟨fun _ => e, fun _ => ⟨o.slots, e⟩⟩
theorem Kp.trans {lo : Heap} {Fs : List Addr} {h h1 h2 : Heap} (x : Kp lo Fs h h1) (y : Kp lo Fs h1 h2) : Kp lo Fs h h2 := by
  refine fun b o l e => ⟨fun n => ?_, fun n => ?_⟩
  · exact (y b o l ((x b o l e).1 n)).1 n
  · obtain ⟨sl, e1⟩ := (x b o l e).2 n
    obtain ⟨sl2, e2⟩ := (y b _ l e1).2 n
    exact ⟨sl2, e2⟩
theorem Kp.mono {lo lo' : Heap} {Fs Fs' : List Addr} {h h' : Heap} (x : Kp lo Fs h h') (l : Lv lo' lo) (f : ∀ b ∈ Fs, b ∈ Fs') : Kp lo' Fs' h h' :=
  fun b o lt e => by
    have lt' : lo.get? b ≠ none := fun q => lt (l b q)
    refine ⟨fun n => (x b o lt' e).1 fun q => n (f b q), fun _ => ?_⟩
    by_cases q : b ∈ Fs
    · exact (x b o lt' e).2 q
    · exact ⟨o.slots, (x b o lt' e).1 q⟩
theorem Kp.lv {lo : Heap} {Fs : List Addr} {h h' : Heap} (x : Kp lo Fs h h') (l : Lv lo h) : Lv lo h' := fun b n => by
  cases q : lo.get? b with
  | none => rfl
  | some z =>
    cases e : h.get? b with
    | none => rw [l b e] at q; cases q
    | some o =>
      exfalso
      have lt : lo.get? b ≠ none := by rw [q]; exact fun h => nomatch h
      by_cases f : b ∈ Fs
      · obtain ⟨sl, e'⟩ := (x b o lt e).2 f
        exact nn_of e' n
      · exact nn_of ((x b o lt e).1 f) n
theorem Lv.refl (h : Heap) : Lv h h := fun _ n => n

noncomputable def Trc (lo : Heap) (e : Addr) (vs : Array Value) (fl : Value) (h : Heap) : Prop :=
  (vs[1]? = some .none ∧ fl = .none) ∨ ∃ T oT ts, vs[1]? = some (.ref T) ∧ lo.get? T = none ∧ T ≠ e ∧ h.get? T = some oT ∧ oT.data = .fields ts ∧ ts[3]? = some fl

noncomputable def Cde (lo : Heap) (e : Addr) (oe : Obj) (cd : Option Int) (h : Heap) : Prop :=
  ∀ k, cd = some k → ∃ d mA u, oe.dict = some d ∧ lo.get? d = none ∧ d ≠ e ∧ h.Ns1 d mA ∧ mA (Str.ofString "code") = some (.int k u)

/-- an exception that is on its way -/
structure Fly (lo : Heap) (C : Addr) (cd : Option Int) (e : Addr) (fl : Value) (h : Heap) : Prop where
  ge : lo.get? e = none
  ex : ∃ oe vs, h.get? e = some oe ∧ oe.cls = .ref C ∧ oe.data = .fields vs ∧ vs.size = 6 ∧ (C = 58 → vs[2]? = some .none) ∧ Trc lo e vs fl h ∧ Cde lo e oe cd h

theorem Fly.mono {lo lo' : Heap} {C : Addr} {cd : Option Int} {e : Addr} {fl : Value} {h : Heap} (x : Fly lo C cd e fl h) (l : Lv lo' lo) : Fly lo' C cd e fl h := by
  obtain ⟨ge, oe, vs, a1, a2, a3, a4, a5, a6, a7⟩ := x
  refine ⟨l _ ge, oe, vs, a1, a2, a3, a4, a5, ?_, ?_⟩
  · rcases a6 with a6 | ⟨T, oT, ts, b1, b2, b3⟩
    · exact .inl a6
    · exact .inr ⟨T, oT, ts, b1, l _ b2, b3⟩
  · intro k hk
    obtain ⟨d, mA, u, c1, c2, c3⟩ := a7 k hk
    exact ⟨d, mA, u, c1, l _ c2, c3⟩

theorem FrOK.fun {c : Ct} {h : Heap} : ∀ {l : List Env}, FrOK c h l → h.FunFrames { objs := #[] } l
  | [], _ => trivial
  | env :: r, ⟨k, ⟨L, o, es, ep, hf, n, e, d⟩, q⟩ => ⟨k, ⟨L, o, hf, by simp [Heap.get?], e, fun vs z => by rw [d] at z; cases z⟩, q.fun⟩

section
variable {M : Model} {A : Around} {E : Value → Shared → Prop} {s : Shared} {h : Heap} {t : Nat} {c : Ct}

theorem x_note {env : Env} {outer : List Env} {L : Nat} {lo : Heap} {C : Addr} {cd : Option Int} {e : Addr} {fl : Value} {Q : Unit → Shared → Prop}
    (X : Fly lo C cd e fl h) (hfr : A.frames = some (env :: outer)) (ok : FrOK c h (env :: outer)) (hlt : ∀ b ∈ fsOf (env :: outer), lo.get? b ≠ none) (lv : Lv lo h) (hf : env.frame = some L)
    (H : ∀ h', Fly lo C cd e (rawInt L) h' → Kp lo (fsOf (env :: outer)) h h' → Q () (Mk s h' t)) : wpAny M A (noteFrame (.ref e) env) Q E (Mk s h t) := by
  obtain ⟨ge, oe, vs, he, hc, hd, hsz, hctx, htr, hcd⟩ := X
  have s1 : 1 < vs.size := by (first | lia | omega)
  have ne : ∀ b, lo.get? b ≠ none → b ≠ e := fun b q z => q (z ▸ ge)
  -- a new entry
  have fin : ∀ (g : Heap) (head : Value) (hn : Bool), Kp lo (fsOf (env :: outer)) h g → FrOK c g (env :: outer) → g.get? e = some oe → (∀ k, cd = some k → ∃ d mA u, oe.dict = some d ∧ lo.get? d = none ∧ d ≠ e ∧ d < g.objs.size ∧ g.Ns1 d mA ∧ mA (Str.ofString "code") = some (.int k u)) →
      wpAny M A (do let a ← frameOf env; let pl ← entryPlaceOf L hn; let b ← EntryCells.newEntry head a .none (rawInt L) .none pl; setField (.ref e) 1 b) Q E (Mk s g t) := by
    intro g head hn kp ok he hcd
    refine wpAny_bind (wpAny_frameOf_fun hfr ok.fun hf fun h₁ hs₁ => ?_)
    refine wpAny_bind (wpAny_entryPlaceOf fun pl hpl => ?_)
    unfold EntryCells.newEntry newFields
    refine wpAny_bind (wpAny_newObj_type ?_ (hpl.sizeOk5 _ _ _ _ _))
    have heF : e ∉ fsOf (env :: outer) := fun q => hlt e q ge
    have he₁ : h₁.get? e = some oe := (hs₁.2.1 e heF).trans he
    have he₂ := Heap.get?_push_of_some (h := h₁) { cls := .type "traceback", dict := none, data := .fields ([head, .ref L, .none, rawInt L, .none] ++ (if pl.isEmpty then List.replicate 6 Value.none else pl)).toArray } he₁
    refine wpAny_setField he₂ hd s1 (H _ ?_ ?_)
    · have hTe : h₁.objs.size ≠ e := Nat.ne_of_gt (Heap.lt_size he₁)
      have hd₃ := Obj.data_mapFields hd (·.setIfInBounds 1 (Value.ref h₁.objs.size))
      refine ⟨ge, _, _, Heap.get?_update_self _ he₂ (Obj.isFreed_of_fields hd₃), (Obj.cls_mapFields _ _).trans hc, hd₃, by simp [hsz], fun q => ?_, .inr ⟨h₁.objs.size, _, _, ?_, ?_, hTe, (Heap.get?_update_other _ _ (Ne.symm hTe)).trans (Heap.get?_push_size h₁ rfl), rfl, by rcases hpl with rfl | ⟨_, _, _, _, _, _, _, rfl⟩ <;> simp⟩, fun k hk => ?_⟩
      · rw [Array.getElem?_setIfInBounds_ne (by decide)]; exact hctx q
      · simp [s1]
      · exact kp.lv lv _ (Heap.get?_none_of_le (by rw [hs₁.1]; exact Nat.le_refl _))
      · obtain ⟨d, mA, u, c1, c2, c3, c4, c5, c6⟩ := hcd k hk
        have hdF : d ∉ fsOf (env :: outer) := fun q => hlt d q c2
        refine ⟨d, mA, u, ?_, c2, c3, ?_, c6⟩
        · unfold Obj.mapFields
          split <;> exact c1
        · obtain ⟨o, es, ep, q1, q2, q3, q4, q5⟩ := c5
          exact ⟨o, es, ep, (Heap.get?_update_other _ _ (Ne.symm c3)).trans (Heap.get?_push_of_some _ ((hs₁.2.1 d hdF).trans q1)), q2, q3, q4, q5⟩
    · refine kp.trans fun b o l eb => ⟨fun n => ?_, fun n => ?_⟩
      · exact (Heap.get?_update_other _ _ (ne b l).symm).trans (Heap.get?_push_of_some _ ((hs₁.2.1 b n).trans eb))
      · obtain ⟨sl, e1⟩ := hs₁.2.2 b o eb
        exact ⟨sl, (Heap.get?_update_other _ _ (ne b l).symm).trans (Heap.get?_push_of_some _ e1)⟩
  unfold noteFrame
  simp only [hf]
  rcases htr with ⟨h1, rfl⟩ | ⟨T, oT, ts, h1, lT, nT, hT, hdT, h3⟩
  · refine wpAny_bind (wpAny_field he hd h1 ?_)
    rw [if_neg (by decide)]
    refine fin h _ _ (Kp.refl _ _ _) ok he fun k hk => ?_
    obtain ⟨d, mA, u, c1, c2, c3, c4, c5⟩ := hcd k hk
    exact ⟨d, mA, u, c1, c2, c3, c4.ns.lt, c4, c5⟩
  · refine wpAny_bind (wpAny_field he hd h1 ?_)
    rw [if_pos (show (Value.ref T != Value.none) = true from by simp)]
    refine wpAny_bind (wpAny_field hT hdT h3 ?_)
    by_cases q : fl = rawInt L
    · rw [if_pos (show (fl == rawInt L) = true from by rw [q]; simp)]
      exact wpAny_pure (H h ⟨ge, oe, vs, he, hc, hd, hsz, hctx, .inr ⟨T, oT, ts, h1, lT, nT, hT, hdT, q ▸ h3⟩, hcd⟩ (Kp.refl _ _ _))
    · rw [if_neg (show ¬ ((fl == rawInt L) = true) from by simpa using q)]
      have other : ∀ b, b ≠ T → (h.update T (Obj.mapFields (·.setIfInBounds 3 Value.none))).get? b = h.get? b := fun b hb => Heap.get?_update_other _ _ (Ne.symm hb)
      have dT : ∀ b o, h.get? b = some o → (∃ es ep, o.data = .dict es ep) → b ≠ T := fun b o eb ⟨es, ep, d⟩ z => by
        rw [z, hT] at eb; injection eb with eb; subst eb; rw [hdT] at d; cases d
      refine wpAny_bind (wpAny_setField hT hdT (Array.getElem?_eq_some_iff.mp h3).1 ?_)
      refine fin _ _ _ (fun b o l eb => ?_) (ok.of fun b o hb eb => ⟨o, (other b fun z => ?_).trans eb, rfl⟩) ((other e nT.symm).trans he) fun k hk => ?_
      · have nb : b ≠ T := fun z => l (z ▸ lT)
        exact ⟨fun _ => (other b nb).trans eb, fun _ => ⟨o.slots, (other b nb).trans eb⟩⟩
      · obtain ⟨_, o', es, ep, e', d⟩ := ok.mem b hb
        exact dT b o' e' ⟨es, ep, d⟩ z
      · obtain ⟨d, mA, u, c1, c2, c3, c4, c5⟩ := hcd k hk
        obtain ⟨o, es, ep, q1, q2, q3⟩ := c4
        have nb := dT d o q1 ⟨es, ep, q2⟩
        refine ⟨d, mA, u, c1, c2, c3, ?_, ⟨o, es, ep, (other d nb).trans q1, q2, q3⟩, c5⟩
        rw [Heap.size_after_update]; exact Heap.lt_size q1

theorem x_fly {lo : Heap} {C : Addr} {cd : Option Int} {e : Addr} {fl : Value} {fr : Option Addr} {Q : Unit → Shared → Prop}
    (X : Fly lo C cd e fl h) (tr : fl ≠ .none ∨ fr = none)
    (H : ∀ h', Fly lo C cd e (fr.elim .none fun f => rawInt f) h' → Kp lo [] h h' → Q () (Mk s h' t)) : wpAny M A (setFlight (.ref e) fr) Q E (Mk s h t) := by
  obtain ⟨ge, oe, vs, he, hc, hd, hsz, hctx, htr, hcd⟩ := X
  unfold setFlight
  rcases htr with ⟨h1, rfl⟩ | ⟨T, oT, ts, h1, lT, nT, hT, hdT, h3⟩
  · rcases tr with tr | rfl
    · exact absurd rfl tr
    refine wpAny_bind (wpAny_field he hd h1 ?_)
    rw [if_neg (by decide)]
    exact wpAny_pure (H h ⟨ge, oe, vs, he, hc, hd, hsz, hctx, .inl ⟨h1, rfl⟩, hcd⟩ (Kp.refl _ _ _))
  · refine wpAny_bind (wpAny_field he hd h1 ?_)
    rw [if_pos (show (Value.ref T != Value.none) = true from by simp)]
    have s3 : 3 < ts.size := (Array.getElem?_eq_some_iff.mp h3).1
    have other : ∀ b, b ≠ T → (h.update T (Obj.mapFields (·.setIfInBounds 3 (fr.elim Value.none fun f => rawInt f)))).get? b = h.get? b := fun b hb => Heap.get?_update_other _ _ (Ne.symm hb)
    have hdT' := Obj.data_mapFields hdT (·.setIfInBounds 3 (fr.elim Value.none fun f => rawInt f))
    refine wpAny_setField hT hdT s3 (H _ ⟨ge, oe, vs, (other e nT.symm).trans he, hc, hd, hsz, hctx, .inr ⟨T, _, _, h1, lT, nT, Heap.get?_update_self _ hT (Obj.isFreed_of_fields hdT'), hdT', by simp [s3]⟩, fun k hk => ?_⟩ (fun b o l eb => ?_))
    · obtain ⟨d, mA, u, c1, c2, c3, c4, c5⟩ := hcd k hk
      obtain ⟨o, es, ep, q1, q2, q3⟩ := c4
      have nb : d ≠ T := fun z => by
        rw [z, hT] at q1; injection q1 with q1; subst q1; rw [hdT] at q2; cases q2
      exact ⟨d, mA, u, c1, c2, c3, ⟨o, es, ep, (other d nb).trans q1, q2, q3⟩, c5⟩
    · have nb : b ≠ T := fun z => l (z ▸ lT)
      exact ⟨fun _ => (other b nb).trans eb, fun _ => ⟨o.slots, (other b nb).trans eb⟩⟩

theorem rawInt_ne (L : Int) : rawInt L ≠ .none := fun z => by cases z

/-- an exception leaves a frame -/
theorem x_leave {env : Env} {outer : List Env} {L : Nat} {lo : Heap} {C : Addr} {cd : Option Int} {e : Addr} {fl : Value} {Q : Unit → Shared → Prop}
    (X : Fly lo C cd e fl h) (hfr : A.frames = some (env :: outer)) (ok : FrOK c h (env :: outer)) (hlt : ∀ b ∈ fsOf (env :: outer), lo.get? b ≠ none) (lv : Lv lo h) (hf : env.frame = some L)
    (H : ∀ h', Fly lo C cd e .none h' → Kp lo (fsOf (env :: outer)) h h' → Q () (Mk s h' t)) : wpAny M A (leaving env (.ref e)) Q E (Mk s h t) := by
  unfold leaving
  refine wpAny_bind (x_note X hfr ok hlt lv hf fun h1 X1 k1 => ?_)
  refine x_fly X1 (.inl (rawInt_ne _)) fun h2 X2 k2 => ?_
  exact H h2 X2 (k1.trans (k2.mono (Lv.refl _) fun b q => nomatch q))

theorem x_back {env : Env} {L : Nat} {lo : Heap} {C : Addr} {cd : Option Int} {e : Addr} {fl : Value}
    (X : Fly lo C cd e fl h) (tr : fl ≠ .none) (hf : env.frame = some L)
    (H : ∀ h', Fly lo C cd e (rawInt L) h' → Kp lo [] h h' → E (.ref e) (Mk s h' t)) : cameBackBy M A env E (.ref e) (Mk s h t) := by
  unfold cameBackBy
  obtain ⟨ge, oe, vs, he, hc, hd, hsz, hctx, htr, hcd⟩ := id X
  rcases htr with ⟨h1, rfl⟩ | ⟨T, oT, ts, h1, lT, nT, hT, hdT, h3⟩
  · exact absurd rfl tr
  refine wpAny_bind (wpAny_field he hd h1 ?_)
  rw [if_neg (show ¬ ((Value.ref T == Value.none) = true) from by simp)]
  rw [hf]
  exact x_fly X (.inl tr) fun h' X' k' => H h' X' k'
end

section
variable {c : Ct} {outer : List Env} {D : List Addr} {h0 h h' : Heap}
theorem Ext.kp {lo : Heap} {Fs Fs' : List Addr} (x : Ext c D Fs h0 h) (k : Kp lo Fs' h h') (l : Lv h0 lo) (f : ∀ b ∈ Fs', b ∈ Fs ∨ h0.get? b = none) (nF : ∀ b ∈ Fs, c.B.get? b = none) : Ext c D Fs h0 h' := by
  refine fun b o e => ?_
  have lt : lo.get? b ≠ none := fun q => nn_of e (l b q)
  obtain ⟨o1, e1, a1, a2, a3⟩ := x b o e
  by_cases q : b ∈ Fs
  · by_cases q' : b ∈ Fs'
    · obtain ⟨sl, e2⟩ := (k b o1 lt e1).2 q'
      refine ⟨_, e2, fun z _ => absurd (nF b q) z, fun _ z => absurd q z, fun _ => ?_⟩
      rw [a3 q]
    · exact ⟨o1, (k b o1 lt e1).1 q', a1, a2, a3⟩
  · have q' : b ∉ Fs' := fun z => (f b z).elim q (nn_of e)
    exact ⟨o1, (k b o1 lt e1).1 q', a1, a2, a3⟩
end
end Mine

-- L5
set_option maxRecDepth 100000
set_option Elab.async false
set_option linter.unusedVariables false
namespace Mine
open PySem PySem.W PySem.Calls PyProof.Rows

/-! own exceptions: made, raised -/
theorem ns_some_of {K : Frag} {h : Heap} {N : Addr} {mg : Str → Option Value} {n : Str} {v : Value} (X : K.In h) (G : h.Ns N mg) (e : nsIn K N n = some (some v)) : mg n = some v := by
  obtain ⟨o, es, ep, ho, hd, _, hf⟩ := G
  unfold nsIn at e
  split at e
  · rename_i c d es' n' sl q
    have := X _ _ q
    rw [ho] at this
    cases this
    cases hd
    split at e
    · rename_i en he
      cases e
      rw [← hf]
      unfold nsFind findBy
      rw [← Array.find?_toList, he]
      rfl
    · split at e <;> cases e
  · cases e
noncomputable def strOk : List DictEntry → Bool
  | [] => true
  | ⟨_, .str _ _, _⟩ :: r => strOk r
  | _ :: _ => false
theorem strOk_mem : ∀ {l : List DictEntry}, strOk l = true → ∀ e ∈ l, ∃ n t, e.key = .str n t
  | [], _, e, he => nomatch he
  | ⟨_, k, _⟩ :: r, h, e, he => by
    unfold strOk at h
    split at h
    · rename_i q; cases q
    · rename_i q; cases q
      rcases List.mem_cons.mp he with rfl | he
      · exact ⟨_, _, rfl⟩
      · exact strOk_mem h e he
    · cases h
theorem ns_at {c : Ct} {h : Heap} (g : G c h) {N : Addr} {cl : Value} {dd : Option Addr} {es : List DictEntry} {ep : Nat} {sl : Array (Option Value)} (e : (hd.heap_1 c.w.params).lookup N = some ⟨cl, dd, .dict es.toArray ep, sl⟩) (ok : strOk es = true) : h.Ns N (nsFind es.toArray) :=
  ⟨_, _, _, g.X _ _ e, rfl, fun x hx => strOk_mem ok x (by simpa using hx), fun _ => rfl⟩

section
variable {c : Ct} {h : Heap}
theorem cls_quic (g : G c h) : h.get? 38 = some (excClassObj "QuicError" "QuicError" 38 37 [.type "Exception"] [.type "Exception", .type "BaseException", .type "object"] true [] [] false none none (some (.ref 22)) none
    (some (.str "QuicError" 200)) (some (.str "QuicError" 208)) (some (.bool true)) "Exception.__new__") := g.X 38 _ (by rfl)
theorem cls_short (g : G c h) : h.get? 58 = some (excClassObj "Short" "Short" 58 57 [.type "Exception"] [.type "Exception", .type "BaseException", .type "object"] true [] [] false none none (some (.ref 42)) none
    (some (.str "Short" 233)) (some (.str "Short" 241)) (some (.bool true)) "Exception.__new__") := g.X 58 _ (by rfl)
end

section
open Builtin Builtin.ObjectAttr
variable {prog : Program} {w : World} {A : Around} {E : Value → Shared → Prop} {h : Heap} {g : Array GenState} {d : Drawn} {t : Nat} {os : OsState}
variable {nm q : Str} {C N x : Addr} {bs bm : List Value} {sn : List Str} {sub : List Value} {ab : Bool} {col : Option Bool} {dd : Option Addr} {k0 k1 k2 k3 k5 : Option Value} {B newId sa owner : String}
  {mN : Str → Option Value} {name : Str} {v : Value}

/-- the first attribute of an object that has no dict yet -/
theorem sa_first {tk : Tok} {Q : Fin → Shared → Prop} {o : Obj} (SF : StoreFacts B bm sa owner)
    (hC : h.get? C = some (excClassObj nm q C N bs bm true sn sub ab col dd k0 k1 k2 k3 k5 newId)) (hn : h.Ns N mN) (hna : mN name = none)
    (hB : typeLookup (.type B) name = pure none) (hx : h.get? x = some o) (hc : o.cls = .ref C) (hnc : ∀ c, o.data ≠ .cls c) (hd : o.dict = none)
    (H : ∀ h' tk' d', h.get? d' = none → d' ≠ x → h'.Ns1 d' (fun y => if y = name then some v else none) → h'.get? x = some { o with dict := some d' } →
      (∀ b ob, b ≠ x → h.get? b = some ob → h'.get? b = some ob) → Q (.done (.ret .none)) ⟨h', g, d, tk', os⟩) :
    wpAny (model prog w) A (Builtin.«object.__setattr__» ⟨[.ref x, .str name tk, v], []⟩) Q E ⟨h, g, d, t, os⟩ := by
  have hpass := SF.passes (.ref x)
  unfold Builtin.«object.__setattr__»
  repeat (first | rw [refuse_eq] | (rw [refuseLoop_ref, hpass]) | (with_reducible refine wpAny_loadPart_at hx ?_; rw [hc]) | with_reducible refine wpAny_mroOf_exc hC ?_ | (with_reducible refine wpAny_typeLookup_exc hC hn SF.mro hB ?_; rw [hna]) | wp_step)
  rw [hd, if_neg (by simp [typeHasDict])]
  split
  · rename_i hcd
    cases hcd
  split
  · rename_i c hcd
    exact absurd hcd (hnc c)
  · have hx₁ : (h.push { cls := .type "dict", data := .dict #[] }).get? x = some o := Heap.get?_push_of_some _ hx
    have hxs : x ≠ h.objs.size := Nat.ne_of_lt (Heap.lt_size hx)
    refine wpAny_bind (wpAny_alloc' (wpAny_bind (wpAny_update' hx₁ (wpAny_pure ?_))))
    have hgd : ((h.push { cls := .type "dict", data := .dict #[] }).update x fun o => { cls := o.cls, dict := some h.objs.size, data := o.data, slots := o.slots }).get? h.objs.size
        = some { cls := .type "dict", data := .dict #[] } := (Heap.get?_update_ne _ _ _ _ hxs.symm).trans (Heap.get?_push_at rfl rfl)
    have hnd : ((h.push { cls := .type "dict", data := .dict #[] }).update x fun o => { cls := o.cls, dict := some h.objs.size, data := o.data, slots := o.slots }).Ns h.objs.size (fun _ => none) :=
      ⟨_, #[], _, hgd, rfl, fun e he => absurd he (by simp), fun _ => rfl⟩
    show wpAny _ _ (storeInDict h.objs.size (.str name tk) name v) _ _ _
    unfold storeInDict newKeyGuard
    refine wpAny_bind (wpAny_pure (wpAny_bind (wpAny_nsSet1 (Heap.Ns1.of_empty hnd) fun h' hn' hs => ?_)))
    obtain ⟨oD, esD, epD, hoD, hdD, hcD⟩ := hn'.count (Within.cons name v Within.nil)
    refine wpAny_bind (wpAny_lookBehind hoD (by rw [hdD]; exact pastItsLine_dict (Nat.le_trans hcD (by rw [List.length_cons, List.length_nil, sizeLine_eq]; (first | lia | omega)))) ?_)
    wp_walk
    refine H h' _ h.objs.size (new_size h) hxs.symm hn' ((hs.2 x hxs).trans (Heap.get?_update_self _ hx₁ ?_)) fun b ob hb e => (hs.2 b (Nat.ne_of_lt (Heap.lt_size e))).trans ((Heap.get?_update_ne _ _ _ _ hb).trans (Heap.get?_push_of_some _ e))
    have hfr := (Heap.get?_some_iff.mp hx).2
    obtain ⟨oc, od, odt, osl⟩ := o
    cases odt <;> first | rfl | exact hfr

theorem setattr_first {Q : Unit → Shared → Prop} {o : Obj} (SF : StoreFacts B bm sa owner)
    (hC : h.get? C = some (excClassObj nm q C N bs bm true sn sub ab col dd k0 k1 k2 k3 k5 newId)) (hn : h.Ns N mN) (hns : mN "__setattr__" = none) (hna : mN name = none)
    (hB : typeLookup (.type B) name = pure none) (hx : h.get? x = some o) (hc : o.cls = .ref C) (hnc : ∀ c, o.data ≠ .cls c) (hd : o.dict = none)
    (H : ∀ h' tk' d', h.get? d' = none → d' ≠ x → h'.Ns1 d' (fun y => if y = name then some v else none) → h'.get? x = some { o with dict := some d' } →
      (∀ b ob, b ≠ x → h.get? b = some ob → h'.get? b = some ob) → Q () ⟨h', g, d, tk', os⟩) :
    wpAny (model prog w) A (setAttr (.ref x) name v) Q E ⟨h, g, d, t, os⟩ := by
  have f3 := SF.slot.bind (.ref x)
  unfold setAttr callSpecial? specialOf
  repeat (any_goals (first | assumption | (with_reducible refine wpAny_loadPart_at hx ?_; rw [hc]) | (with_reducible refine wpAny_typeLookup_exc hC hn SF.mro SF.slot.lookup ?_; rw [hns]) | wp_step))
  refine codeAny_call_builtin SF.slot.plain SF.entry (wpAny_check_sa SF hC hx hc (sa_first SF hC hn hna hB hx hc hnc hd fun h' tk' d' a1 a2 a3 a4 a5 => ?_))
  repeat (any_goals (first | assumption | wp_step))
  exact H h' tk' d' a1 a2 a3 a4 a5

/-- Exception.__init__ on an own exception -/
theorem exc_init {e : Addr} {ob : Obj} {vs : Array Value} {rest : List Value} {Q : Value → Shared → Prop}
    (hC : h.get? C = some (excClassObj nm q C N bs [.type "Exception", .type "BaseException", .type "object"] true sn sub ab col dd k0 k1 k2 k3 k5 "Exception.__new__")) (he : h.get? e = some ob) (hcls : ob.cls = .ref C) (hd : ob.data = .fields vs) (hsz : 0 < vs.size)
    (H : ∀ h', (∀ b o, b ≠ e → h.get? b = some o → h'.get? b = some o) → (∀ vs', vs' = vs.setIfInBounds 0 (.ref h.objs.size) → h'.get? e = some { ob with data := .fields vs' }) → Q .none ⟨h', g, d, t, os⟩) (hrest : rest.length ≤ sizeLine := by size_fits) :
    wpAny (model prog w) A (call (.builtin "Exception.__init__") (.ref e :: rest)) Q E ⟨h, g, d, t, os⟩ := by
  have F := F.excBase_Exception
  refine wpAny_call (codeAny_call_builtin F.init.plain F.initEntry (wpAny_check_init_sub F hC he hcls ?_))
  unfold Builtin.«BaseException.__init__»
  dsimp only
  rw [if_neg (by simp)]
  unfold newTuple Builtin.BaseException.bexcPut
  obtain ⟨v0, h0⟩ : ∃ v0, vs[0]? = some v0 := ⟨vs[0], Array.getElem?_eq_some_iff.mpr ⟨hsz, rfl⟩⟩
  have he₁ := Heap.get?_push_of_some (h := h) { cls := .type "tuple", data := .seq rest.toArray } he
  have fin : Q .none ⟨(h.push { cls := .type "tuple", data := .seq rest.toArray }).update e (Obj.mapFields (·.setIfInBounds 0 (.ref h.objs.size))), g, d, t, os⟩ := by
    refine H _ (fun b o nb eb => (Heap.get?_update_other _ _ (Ne.symm nb)).trans (Heap.get?_push_of_some _ eb)) fun vs' hv => ?_
    have hdd := Obj.data_mapFields hd (·.setIfInBounds 0 (Value.ref h.objs.size))
    rw [Heap.get?_update_self _ he₁ (Obj.isFreed_of_fields hdd), hv]
    obtain ⟨oc, od, odt, osl⟩ := ob
    cases hd
    rfl
  refine wpAny_bind (wpAny_newObj_type (wpAny_bind (wpAny_bind (wpAny_field he₁ hd h0 (wpAny_bind (wpAny_setField he₁ hd hsz ?_))))) (by show rest.toArray.size ≤ sizeLine; rw [List.size_toArray]; exact hrest))
  refine wpAny_mono (Q := fun _ s' => s' = (⟨(h.push { cls := .type "tuple", data := .seq rest.toArray }).update e (Obj.mapFields (·.setIfInBounds 0 (.ref h.objs.size))), g, d, t, os⟩ : Shared)) (E := E) ?_ (fun _ s' q => ?_) fun _ _ z => z
  rotate_left
  · subst q
    exact wpAny_pure fin
  · cases v0 <;> first | exact wpAny_letGo rfl | exact wpAny_pure rfl
end
end Mine

-- L6
set_option maxRecDepth 100000
set_option Elab.async false
set_option linter.unusedVariables false
namespace Mine
open PySem PySem.W PySem.Calls PyProof.Rows

noncomputable def NsK (m : Str → Option Value) : Kd := fun o => ∃ es ep, o.data = .dict es ep ∧ StrKeys es ∧ UniqKeys es ∧ ∀ name, nsFind es name = m name
theorem At.ns1 {h : Heap} {d : Addr} {m : Str → Option Value} (x : At h d (NsK m)) : h.Ns1 d m := let ⟨o, e, es, ep, r⟩ := x; ⟨o, es, ep, e, r⟩
theorem At.ofNs1 {h : Heap} {d : Addr} {m : Str → Option Value} (x : h.Ns1 d m) : At h d (NsK m) := let ⟨o, es, ep, e, r⟩ := x; ⟨o, e, es, ep, r⟩

section
variable {c : Ct} {outer : List Env} {D : List Addr} {h0 h h' : Heap} {L : Addr} {m m' : Str → Option Value} {led led' post news rest : Led}
theorem St.fr0 (S : St c outer D h0 L m led h) : Fr { objs := #[] } L h m := ⟨S.ns, fun b o e => by simp [Heap.get?] at e, Nat.zero_le _⟩
theorem Cx.under {n : Nat} {A : Around} {hv : Option Value} (C : Cx c (n + 1) A outer h hv) (x : Addr) (vs : List Value) : Cx c n (A.under (.builtin "type.__call__" ⟨.ref x :: vs, []⟩)) outer h hv := by
  refine ⟨C.hd, ?_, ?_, C.fr, C.ok⟩
  · show A.depth + 1 + 4 * n < recursionLimit
    have := C.dp; (first | lia | omega)
  · show A.units + _ + 40 * n < cLine
    have := C.un
    have : (Code.builtin "type.__call__" ⟨.ref x :: vs, []⟩).cUnits = 1 := by rfl
    (first | lia | omega)
end

section
variable {M : Model} {c : Ct} {n : Nat} {outer : List Env} {D : List Addr} {h0 h h' : Heap} {L a : Addr} {m m' : Str → Option Value} {led led' post news rest : Led} {A : Around} {E : Value → Shared → Prop} {s : Shared} {t : Nat} {name : Str} {scope : Scope} {cd : Value} {cY : List (Str × Addr)} {hv : Option Value} {env : Env} {p : Program} {w : World}

noncomputable def isVal (r : Option CFound) (id : String) : Bool := match r with
  | some (.val (.builtin x)) => x == id
  | _ => false
theorem of_isVal {r : Option CFound} {id : String} (h : isVal r id = true) : r = some (.val (.builtin id)) := by
  unfold isVal at h
  split at h
  · rw [beq_iff_eq.mp h]
  · cases h
/-- a call of an attribute -/
theorem x_callA {o : Expr} {apos pos : Pos} {args : List Expr} {pl : Sem Bool} {Q : Value → Shared → Prop}
    (H : wpAny M A (eval o env) (fun ov s₁ => wpAny M A (getMethod ov name pl) (fun fx s₂ => wpAny M A (callWith pos fx.1 fx.2 (backTo pos (starEach args env)) []) Q E s₂) E s₁) E s)
    (he : eval (.Call (.Attribute o name apos) args [] pos) env = (do
      let ov ← eval o env
      standAt apos.atName
      let (f, first) ← holding [ov] (getMethod ov name pl)
      callWith pos f first (backTo pos (starEach args env)) (backToKw pos (keywordEach [] env))) := by with_unfolding_all rfl) :
    wpAny M A (eval (.Call (.Attribute o name apos) args [] pos) env) Q E s := methodCall_KW H he
/-- the method of a built-in type -/
theorem x_mtype {T id : String} {pl : Sem Bool} {Q : Value × List Value → Shared → Prop} (S : St c outer D h0 L m led h) (H : ∀ t', Q (.builtin id, []) (Mk s h t'))
    (ht : typeOf (.type T) = pure (.type "type") := by kernel_rfl) (hs : Manifest.isStub T = false := by decide +kernel)
    (e : isVal (findCls [] (.type T) (.type "type") name) id = true := by decide +kernel) (hh : handedIn (.builtin id) = true := by decide +kernel) : wpAny (model p w) A (getMethod (.type T) name pl) Q E (Mk s h t) :=
  method_type (K := []) (s := Mk s h t) S.fr0 (fun _ _ e => nomatch e) ht hs (of_isVal e) hh (H _)
/-- a call of a built-in type -/
theorem x_cwT {T : String} {pos : Pos} {e : Expr} {es : List Expr} {Q : Value → Shared → Prop}
    (H : wpAny M A (spliced (backTo pos (starEach (e :: es) env))) (fun vs s₁ => wpAny M A (call (.type T) vs) Q E s₁) E s)
    (he : starEach (e :: es) env = (false, eval e env) :: starEach es env := by with_unfolding_all rfl) (hplain : (backTo pos (starEach es env)).any (·.1) = false := by with_unfolding_all rfl) :
    wpAny M A (callWith pos (.type T) [] (backTo pos (starEach (e :: es) env)) []) Q E s := by
  rw [he] at H ⊢
  exact PyProof.Rows.callWith_type (by show (false || (backTo pos (starEach es env)).any (·.1)) = false; rw [hplain]; rfl) (evalArgs_plain H)
theorem x_expr {e : Expr} {pos : Pos} {rest : List Stmt} {Q : Flow → Shared → Prop} (H : wpAny M A (eval e env) (fun v s' => match v with | .ref _ => False | _ => wpAny M A (execs rest env) Q E s') E s)
    (hi : interactive env = false := by with_unfolding_all rfl) (hs : swapsWith e none pos.line env = pure false := by with_unfolding_all rfl) : wpAny M A (execs (.Expr e pos :: rest) env) Q E s := by
  refine x_cons (wpAny_Expr (wpAny_mono H (fun v s' q => ?_) fun _ _ x => x) hi hs)
  cases v <;> exact q
theorem x_asgAttr {x : Str} {o : Expr} {p pos : Pos} {e : Expr} {rest : List Stmt} {Q : Flow → Shared → Prop}
    (H : wpAny M A (eval e env) (fun v s₁ => wpAny M A (eval o env) (fun ov s₂ => wpAny M A (setAttr ov x v) (fun _ s₃ => wpAny M A (execs rest env) Q E s₃) E s₂) E s₁) E s)
    (hs : swapsWith e (some (.Attribute o x p)) pos.line env = pure false := by with_unfolding_all rfl) : wpAny M A (execs (.Assign [.Attribute o x p] e pos :: rest) env) Q E s :=
  x_cons (plainObj_wpAny_Assign_Attribute H hs)
theorem i_cat {x y : Str} {u v : Tok} {Q : Value → Shared → Prop} (H : ∀ u t', Q (.str (x ++ y) u) (Mk s h t')) (hsz : x.length + y.length ≤ sizeLine) : wpAny (model p w) A (binaryOp .Add (.str x u) (.str y v)) Q E (Mk s h t) :=
  PyProof.Rows.add_str (fun _ _ => H _ _) hsz
theorem i_strInt {a : Int} {u : Tok} {Q : Value → Shared → Prop} (ha : a.natAbs.log2 < 1920) (H : ∀ u t', Q (.str (toString a) u) (Mk s h t')) : wpAny (model p w) A (call (.type "str") [.int a u]) Q E (Mk s h t) := P.str_of_int ha (H _ _)

/-- the object of an own exception -/
noncomputable def Ex (C : Addr) (d : Option Addr) : Kd := fun o => o.cls = .ref C ∧ o.dict = d ∧ ∃ vs, o.data = .fields vs ∧ vs.size = 6 ∧ vs[1]? = some .none ∧ vs[2]? = some .none

theorem Ex.is {C : Addr} {d : Option Addr} {o : Obj} (z : Ex C d o) : o.cls = .ref C ∧ o.dict = d ∧ ∀ cc, o.data ≠ .cls cc := ⟨z.1, z.2.1, fun cc q => by obtain ⟨vs, z, _⟩ := z.2.2; rw [z] at q; cases q⟩
theorem ex_init {e : Addr} {nm q : Str} {C N : Addr} {bs : List Value} {hdct : Bool} {sn : List Str} {sub : List Value} {ab : Bool} {col : Option Bool} {dd : Option Addr} {k0 k1 k2 k3 k5 : Option Value} {d : Option Addr} {rest : List Value} {Q : Value → Shared → Prop}
    (S : St c outer D h0 L m ((e, Ex C d) :: led) h)
    (hC : h.get? C = some (excClassObj nm q C N bs [.type "Exception", .type "BaseException", .type "object"] hdct sn sub ab col dd k0 k1 k2 k3 k5 "Exception.__new__")) (hb : hdct = true)
    (H : ∀ h', St c outer D h0 L m ((e, Ex C d) :: led) h' → Q .none (Mk s h' t)) (hrest : rest.length ≤ sizeLine := by size_fits) :
    wpAny (model p w) A (call (.builtin "Exception.__init__") (.ref e :: rest)) Q E (Mk s h t) := by
  subst hb
  obtain ⟨o, he, hc, hd, vs, hdt, hsz, h1, h2⟩ := S.head
  refine exc_init (h := h) hC he hc hdt (by (first | lia | omega)) (fun h' kp he' => ?_) hrest
  refine H h' (S.upd' kp ⟨_, he' _ rfl, hc, hd, _, rfl, by simp [hsz], ?_, ?_⟩)
  · rw [Array.getElem?_setIfInBounds_ne (by decide)]; exact h1
  · rw [Array.getElem?_setIfInBounds_ne (by decide)]; exact h2

theorem ex_set1 {e : Addr} {nm q : Str} {C N : Addr} {bs : List Value} {sn : List Str} {sub : List Value} {ab : Bool} {col : Option Bool} {dd : Option Addr} {k0 k1 k2 k3 k5 : Option Value} {newId : String} {mN : Str → Option Value} {v : Value} {Q : Unit → Shared → Prop}
    (S : St c outer D h0 L m ((e, Ex C none) :: led) h)
    (hC : h.get? C = some (excClassObj nm q C N bs [.type "Exception", .type "BaseException", .type "object"] true sn sub ab col dd k0 k1 k2 k3 k5 newId)) (hn : h.Ns N mN) (hns : mN "__setattr__" = none) (hna : mN name = none)
    (hB : typeLookup (.type "Exception") name = pure none)
    (H : ∀ h' t' d, St c outer D h0 L m ((e, Ex C (some d)) :: (d, NsK (fun y => if y = name then some v else none)) :: led) h' → Q () (Mk s h' t')) :
    wpAny (model p w) A (setAttr (.ref e) name v) Q E (Mk s h t) := by
  obtain ⟨o, he, hc, hd, vs, hdt, hsz, h1, h2⟩ := S.head
  refine setattr_first (h := h) F.store_Exception hC hn hns hna hB he hc (fun cc q => by rw [hdt] at q; cases q) hd (fun h' tk' d a1 a2 a3 a4 a5 => ?_)
  have S1 : St c outer D h0 L m ((e, Ex C (some d)) :: led) h' := S.upd' a5 ⟨_, a4, hc, rfl, vs, hdt, hsz, h1, h2⟩
  -- the dict is new
  have dn : d ∉ ((e, Ex C none) :: led).map (·.1) := fun q => S.live q a1
  refine H h' tk' d ?_
  have hd0 : h0.get? d = none := S.old a1
  refine ⟨S1.g, S1.ext, S1.n0, S1.ns, S1.Lf, ?_, ?_, ?_, ?_, ?_, ?_, S1.fo⟩
  · have z := S1.nd
    simp only [List.map_cons, List.nodup_cons, List.mem_cons, not_or] at z dn ⊢
    exact ⟨⟨a2.symm, z.1⟩, dn.2, z.2⟩
  · have z := S1.nL
    simp only [List.map_cons, List.mem_cons, not_or] at z ⊢
    exact ⟨z.1, fun q => S.Lnew (q ▸ a1), z.2⟩
  · intro b hb
    obtain ⟨l, n⟩ := S1.nF b hb
    refine ⟨l, ?_⟩
    simp only [List.map_cons, List.mem_cons, not_or] at n ⊢
    exact ⟨n.1, fun q => by obtain ⟨o, l⟩ := l; exact nn_of (q ▸ l) hd0, n.2⟩
  · intro p hp
    rcases List.mem_cons.mp hp with rfl | hp
    · exact S1.head
    · rcases List.mem_cons.mp hp with rfl | hp
      · exact At.ofNs1 a3
      · exact S1.lat p (List.mem_cons_of_mem _ hp)
  · intro p hp
    rcases List.mem_cons.mp hp with rfl | hp
    · exact S1.own _ (List.mem_cons_self ..)
    · rcases List.mem_cons.mp hp with rfl | hp
      · exact .inr hd0
      · exact S1.own p (List.mem_cons_of_mem _ hp)
  · intro p hp
    rcases List.mem_cons.mp hp with rfl | hp
    · exact S1.hi _ (List.mem_cons_self ..)
    · rcases List.mem_cons.mp hp with rfl | hp
      · exact .inl (S.g.new a1)
      · exact S1.hi p (List.mem_cons_of_mem _ hp)

/-- an attribute of an object that has its dict (any class of the heap) -/
theorem ob_set {e d : Addr} {nm q : Str} {C N : Addr} {bs bm : List Value} {B sa ow : String} {sn : List Str} {sub : List Value} {ab : Bool} {col : Option Bool} {dd : Option Addr} {k0 k1 k2 k3 k5 : Option Value} {newId : String} {mN mA : Str → Option Value} {v : Value} {ns : List Str} {k : Kd} {Q : Unit → Shared → Prop} (SF : StoreFacts B bm sa ow)
    (S : St c outer D h0 L m ((d, NsK mA) :: (e, k) :: led) h) (hk : ∀ o, k o → o.cls = .ref C ∧ o.dict = some d ∧ ∀ cc, o.data ≠ .cls cc) 
    (hC : h.get? C = some (excClassObj nm q C N bs bm true sn sub ab col dd k0 k1 k2 k3 k5 newId)) (hn : h.Ns N mN) (hns : mN "__setattr__" = none) (hna : mN name = none)
    (hB : typeLookup (.type B) name = pure none) (hw : Within mA ns) (hsz : ns.length ≤ sizeLine)
    (H : ∀ h' t', St c outer D h0 L m ((d, NsK (fun y => if y = name then some v else mA y)) :: (e, k) :: led) h' → Q () (Mk s h' t')) :
    wpAny (model p w) A (setAttr (.ref e) name v) Q E (Mk s h t) := by
  obtain ⟨o, he, hko⟩ := S.second
  obtain ⟨hc, hdd, hnc⟩ := hk o hko
  have hde : d ≠ e := fun q => by
    have z := S.nd
    simp only [List.map_cons, List.nodup_cons, List.mem_cons, not_or] at z
    exact z.1.1 q
  have hxC : e ≠ C := fun q => by
    rw [q, hC] at he
    exact hnc _ (by rw [← Option.some.inj he])
  refine store_attr (h := h) SF hC hn hns hna hB hxC ⟨o, he, hc, hnc, .inr ⟨d, hdd, hde, S.head.ns1⟩⟩ (fun h' tk' I kp same => ?_) hw hsz
  obtain ⟨o1, he1, s1, s2, s3, s4⟩ := same o he
  have hd1 : o1.dict = some d := s4 d hdd
  have eo : o1 = o := by
    obtain ⟨a1, a2, a3, a4⟩ := o1
    obtain ⟨b1, b2, b3, b4⟩ := o
    cases s1; cases s2; cases s3; cases hd1; cases hdd; rfl
  refine H h' tk' (S.upd' (fun b ob nb eb => ?_) ?_)
  · by_cases q : b = e
    · subst q
      rw [he] at eb; injection eb with eb; subst eb
      rw [he1, eo]
    · refine kp b ob q (fun o2 dx q1 q2 q3 => ?_) eb
      rw [he] at q1; injection q1 with q1; subst q1
      rw [hdd] at q2; injection q2 with q2
      exact nb (q3.trans q2.symm)
  · obtain ⟨oI, hI, _, _, hI2⟩ := I
    rw [he1] at hI; injection hI with hI; subst hI
    rcases hI2 with ⟨z, _⟩ | ⟨d2, z, _, hns1⟩
    · rw [hd1] at z; cases z
    · rw [hd1] at z; injection z with z; subst z
      exact At.ofNs1 hns1
end
end Mine

-- L7
set_option maxRecDepth 100000
set_option Elab.async false
set_option linter.unusedVariables false
namespace Mine
open PySem PySem.W PySem.Calls PyProof.Rows

theorem entry_unchain : entryFor table "proto.unchain" = some Builtin.«proto.unchain» := entryFor_of_tree (by kernel_rfl)

/-- what is handled at a raise: nothing, or an own Short that has no context -/
noncomputable def Hd (hv : Option Value) (e : Addr) (h : Heap) : Prop :=
  hv = none ∨ ∃ x ox vx, hv = some (.ref x) ∧ x ≠ e ∧ h.get? x = some ox ∧ ox.data = .fields vx ∧ vx[2]? = some .none

section
variable {M : Model} {A : Around} {E : Value → Shared → Prop} {s : Shared} {env : Env} {h : Heap} {t : Nat} {p : Program} {w : World} {hv : Option Value}

theorem x_raiseSt {x : Expr} {pos : Pos} {rest : List Stmt} {Q : Flow → Shared → Prop}
    (H : wpAny M A (eval x env) (fun v s₁ => wpAny M A (raiseStmt env (some (pure v)) none) (fun _ _ => False) E s₁) E s) : wpAny M A (execs (.Raise (some x) none pos :: rest) env) Q E s := by
  refine wpAny_execs_cons ?_
  rw [arm_exec_Raise]
  refine wpAny_bind (wpAny_standAt ?_)
  show wpAny M A (raiseStmt env (some (do let v ← eval x env; standAt pos; pure v)) none) _ E s
  unfold raiseStmt
  refine wpAny_bind (wpAny_bind (wpAny_mono H (fun v s₁ h₁ => wpAny_bind (wpAny_standAt (wpAny_pure ?_))) fun _ _ z => z))
  exact wpAny_mono h₁ (fun _ _ z => z.elim) fun _ _ z => z

theorem x_raiseNew {e : Addr} {oe : Obj} {vs : Array Value} {α : Type} {Q : α → Shared → Prop} (hh : A.handled = hv) (H : Hd hv e h) (he : h.get? e = some oe) (hd : oe.data = .fields vs) (hs : 2 < vs.size)
    (K0 : hv = none → E (.ref e) (Mk s h t))
    (K1 : hv ≠ none → ∀ h' vs', (∀ b o, b ≠ e → h.get? b = some o → h'.get? b = some o) → h'.get? e = some { oe with data := .fields vs' } → vs'.size = vs.size → vs'[1]? = vs[1]? → E (.ref e) (Mk s h' t)) : wpAny (model p w) A (raiseNew (.ref e) : Sem α) Q E (Mk s h t) := by
  unfold raiseNew
  refine wpAny_bind (wpAny_handled ?_)
  rw [hh]
  rcases H with rfl | ⟨x, ox, vx, rfl, ne, hx, hdx, h2⟩
  · exact wpAny_bind (wpAny_pure (wpAny_throw (K0 rfl)))
  · dsimp only
    rw [if_pos (show (Value.ref x != Value.ref e) = true from by simp [ne])]
    refine wpAny_bind (wpAny_holding (wpAny_runValue (codeAny_builtin entry_unchain ?_)))
    unfold Builtin.«proto.unchain»
    dsimp only
    refine wpAny_bind (wpAny_field hx hdx h2 ?_)
    rw [if_pos (by decide)]
    refine wpAny_bind (wpAny_pure (wpAny_pure ?_))
    dsimp only
    unfold updateField
    have hdd := Obj.data_mapFields hd (·.setIfInBounds 2 (Value.ref x))
    refine wpAny_bind (wpAny_bind (wpAny_load he ?_))
    rw [hd]
    dsimp only
    rw [if_pos hs]
    refine wpAny_update he ?_
    refine wpAny_throw (K1 (fun q => nomatch q) _ (vs.setIfInBounds 2 (.ref x)) (fun b o nb eb => (Heap.get?_update_other _ _ (Ne.symm nb)).trans eb) ?_ (by simp) ?_)
    · refine (Heap.get?_update_self _ he (Obj.isFreed_of_fields hdd)).trans ?_
      obtain ⟨oc, od, odt, osl⟩ := oe
      cases hd
      rfl
    · rw [Array.getElem?_setIfInBounds_ne (by decide)]

theorem x_raised {e : Addr} {C : Addr} {nm q : Str} {N : Addr} {bs : List Value} {sn : List Str} {sub : List Value} {ab : Bool} {col : Option Bool} {dd : Option Addr} {k0 k1 k2 k3 k5 : Option Value} {newId : String} {oe : Obj} {vs : Array Value} {Q : Flow → Shared → Prop}
    (hC : h.get? C = some (excClassObj nm q C N bs [.type "Exception", .type "BaseException", .type "object"] true sn sub ab col dd k0 k1 k2 k3 k5 newId))
    (he : h.get? e = some oe) (hc : oe.cls = .ref C) (hd : oe.data = .fields vs) (hsz : vs.size = 6) (h1 : vs[1]? = some .none) (hh : A.handled = hv) (H : Hd hv e h)
    (K0 : hv = none → E (.ref e) (Mk s h t))
    (K1 : hv ≠ none → ∀ h' vs', (∀ b o, b ≠ e → h.get? b = some o → h'.get? b = some o) → h'.get? e = some { oe with data := .fields vs' } → vs'.size = vs.size → vs'[1]? = vs[1]? → E (.ref e) (Mk s h' t)) :
    wpAny (model p w) A (raiseStmt env (some (pure (.ref e))) none) Q E (Mk s h t) := by
  have hcB : (Value.ref C :: [Value.type "Exception", .type "BaseException", .type "object"]).contains (.type "BaseException") = true := by rw [List.contains_cons]; simp
  have fin : wpAny (model p w) A (raiseNew (.ref e) : Sem Flow) Q E (Mk s h t) := x_raiseNew hh H he hd (by (first | lia | omega)) K0 K1
  unfold raiseStmt
  refine wpAny_bind (wpAny_pure ?_)
  obtain ⟨hp, g, d, tk, os⟩ := s
  unfold Mk at fin ⊢
  dsimp only at fin ⊢
  repeat (first | exact fin | with_reducible refine wpAny_loadPart_at he ?_ | rw [hc] | with_reducible refine wpAny_loadPart_at hC ?_ | (with_reducible refine wpAny_isSubtype_exc hC ?_; rw [hcB]) | (with_reducible refine wpAny_field he hd h1 ?_) | wp_step)
end
end Mine

-- L8
set_option maxRecDepth 100000
set_option Elab.async false
set_option linter.unusedVariables false
namespace Mine
open PySem PySem.W PySem.Calls PyProof.Rows


section
variable {M : Model} {c : Ct} {n : Nat} {outer : List Env} {D : List Addr} {h0 h h' : Heap} {L a : Addr} {m m' : Str → Option Value} {led led' post news rest : Led} {A : Around} {E : Value → Shared → Prop} {s : Shared} {t : Nat} {name : Str} {scope : Scope} {cd : Value} {cY : List (Str × Addr)} {hv : Option Value} {env : Env} {p : Program} {w : World}

theorem pre_one {e : Addr} {k : Kd} (C : Cx c n A outer h hv) (g : G c h) (ha : At h' e k) (hn : h.get? e = none) : Pre c (fsOf outer) h' [(e, k)] := by
  refine ⟨fun p hp => by rw [List.mem_singleton.mp hp]; exact ha, by simp, fun b hb q => ?_, fun p hp => by rw [List.mem_singleton.mp hp]; exact .inl (g.new hn)⟩
  obtain ⟨o, e'⟩ := C.ok.lv b hb
  simp only [List.map_cons, List.map_nil, List.mem_singleton] at q
  exact nn_of (q ▸ e') hn

theorem ns_quic (g : G c h) : ∃ mN, h.Ns 37 mN ∧ mN (Str.ofString "__init__") = some (.ref 35) ∧ mN (Str.ofString "__setattr__") = none ∧ mN (Str.ofString "code") = none ∧ mN (Str.ofString "frame_type") = none ∧ mN (Str.ofString "text") = none := by
  have N := ns_at (N := 37) g (by rfl) (by rfl)
  exact ⟨_, N, ns_some_of g.X N (by rfl), ns_none_of g.X N (by rfl), ns_none_of g.X N (by rfl), ns_none_of g.X N (by rfl), ns_none_of g.X N (by rfl)⟩
theorem ns_short (g : G c h) : ∃ mN, h.Ns 57 mN ∧ mN (Str.ofString "__init__") = some (.ref 55) ∧ mN (Str.ofString "__setattr__") = none ∧ mN (Str.ofString "text") = none := by
  have N := ns_at (N := 57) g (by rfl) (by rfl)
  exact ⟨_, N, ns_some_of g.X N (by rfl), ns_none_of g.X N (by rfl), ns_none_of g.X N (by rfl)⟩
theorem Cx.at {h1 : Heap} (C : Cx c n A outer h hv) (k : ∀ b o, h.get? b = some o → h1.get? b = some o) : Cx c n A outer h1 hv := ⟨C.hd, C.dp, C.un, C.fr, C.ok.of fun b o _ e => ⟨o, k b o e, rfl⟩⟩
theorem Cx.st (C : Cx c n A outer h hv) (S : St c (outer.drop 1) D h0 L m led h') (f : FrOK c h' outer) : Cx c n A outer h' hv := ⟨C.hd, C.dp, C.un, C.fr, f⟩

set_option maxHeartbeats 4000000 in
theorem spec_quic {k : Int} {tk : Tok} {ft : Value} {x : Str} {tx : Tok} {Q : Value → Shared → Prop} (hk : k = 1 ∨ k = 8) (hx : x.length ≤ 1000) (C : Cx c (n + 2) A outer h hv) (g : G c h)
    (K : ∀ e d mA u h' t', h.get? e = none → h.get? d = none → At h' e (Ex 38 (some d)) → d ≠ e → h'.Ns1 d mA → mA (Str.ofString "code") = some (.int k u) → Ext c [] (fsOf outer) h h' → Q (.ref e) (Mk s h' t')) :
    wpAny (model pw c.w) A (call (.ref 38) [.int k tk, ft, .str x tx]) Q E (Mk s h t) := by
  obtain ⟨mN, hN, hi, _⟩ := ns_quic g
  refine wpAny_call_exc_init (h := h) F.excBase_Exception (cls_quic g) hN hi (g.X 35 _ (by rfl)) rfl (fun h1 e hm => ?_)
  obtain ⟨t0, he, htn, ht⟩ := hm.there
  have x1 : Ext c [] (fsOf outer) h h1 := (Ext.refl c [] _ h).keep hm.keeps
  have g1 : G c h1 := g.ext x1
  have C1 : Cx c (n + 1) (A.under (.builtin "type.__call__" ⟨[.ref 38, .int k tk, ft, .str x tx], []⟩)) outer h1 hv := by
    exact (Cx.under C 38 [.int k tk, ft, .str x tx]).at hm.keeps
  have P := pre_one (k := Ex 38 none) C g ⟨_, he, rfl, rfl, _, rfl, rfl, rfl, rfl⟩ hm.new
  show wpAny _ _ _ _ _ (Mk s h1 t)
  refine enter (binds := [(Str.ofString "self", .ref e), (Str.ofString "code", .int k tk), (Str.ofString "frame_type", ft), (Str.ofString "text", .str x tx)]) C1 g1 P (by rfl) (by rfl) rfl (by rfl) (by decide) (fun L h2 t2 S C2 => ?_)
  with_reducible refine x_expr ?_
  with_reducible refine x_callA ?_
  with_reducible refine x_blt S (b_Exception S.g) ?_
  with_reducible refine x_mtype (id := "Exception.__init__") S (fun t3 => ?_)
  with_reducible refine x_cwB ?_
  (with_reducible refine x_arg (x_loc (by assumption) (by with_unfolding_all rfl) ?_); with_reducible refine x_arg (wpAny_BinOp (wpAny_BinOp (x_call ?_))))
  with_reducible refine x_blt S (b_str S.g) ?_
  with_reducible refine x_cwT ?_
  (with_reducible refine x_arg (x_loc (by assumption) (by with_unfolding_all rfl) ?_); with_reducible refine x_argN ?_)
  with_reducible refine i_strInt (by rcases hk with rfl | rfl <;> decide +kernel) (fun _ _ => ?_)
  have hl : ((toString k : String) : Str).length ≤ 10 := by rcases hk with rfl | rfl <;> decide +kernel
  with_reducible refine i_str (fun _ _ => ?_)
  with_reducible refine i_cat (fun _ _ => ?_) (by rw [sizeLine_eq]; refine Nat.le_trans (Nat.add_le_add_right hl _) (by decide +kernel))
  with_reducible refine x_loc (by assumption) (by with_unfolding_all rfl) ?_
  with_reducible refine i_cat (fun _ _ => ?_) (by
    rw [sizeLine_eq]
    have h2 : ((toString k : String) ++ (Str.ofString ": ") : Str).length ≤ 20 := by rcases hk with rfl | rfl <;> decide +kernel
    exact Nat.le_trans (Nat.add_le_add h2 hx) (by decide))
  with_reducible refine x_argN ?_
  with_reducible refine ex_init S (cls_quic S.g) rfl (fun h3 S => ?_)
  show wpAny _ _ _ _ _ _
  with_reducible refine x_asgAttr ?_
  (with_reducible refine x_loc (by assumption) (by with_unfolding_all rfl) ?_; with_reducible refine x_loc (by assumption) (by with_unfolding_all rfl) ?_)
  obtain ⟨mN, hN, _, n1, n2, n3, n4⟩ := ns_quic S.g
  with_reducible refine ex_set1 S (cls_quic S.g) hN n1 n2 (by rw [typeLookup_type, builtinLookup_eq_fast]; kernel_rfl) (fun h4 t4 d S => ?_)
  with_reducible refine x_asgAttr ?_
  (with_reducible refine x_loc (by assumption) (by with_unfolding_all rfl) ?_; with_reducible refine x_loc (by assumption) (by with_unfolding_all rfl) ?_)
  obtain ⟨mN, hN, _, n1, n2, n3, n4⟩ := ns_quic S.g
  have S := S.front 1 rfl
  with_reducible refine ob_set F.store_Exception S (fun o z => Ex.is z) (cls_quic S.g) hN n1 n3 (by rw [typeLookup_type, builtinLookup_eq_fast]; kernel_rfl) (by within_ways) (by size_fits) (fun h5 t5 S => ?_)
  with_reducible refine x_asgAttr ?_
  (with_reducible refine x_loc (by assumption) (by with_unfolding_all rfl) ?_; with_reducible refine x_loc (by assumption) (by with_unfolding_all rfl) ?_)
  obtain ⟨mN, hN, _, n1, n2, n3, n4⟩ := ns_quic S.g
  with_reducible refine ob_set F.store_Exception S (fun o z => Ex.is z) (cls_quic S.g) hN n1 n4 (by rw [typeLookup_type, builtinLookup_eq_fast]; kernel_rfl) (by within_ways) (by size_fits) (fun h6 t6 S => ?_)
  refine x_nil ⟨rfl, ?_⟩
  have dnew : h1.get? d = none := by
    rcases S.own _ (List.mem_cons_self ..) with q | q
    · exfalso
      have z := S.nd
      simp only [List.map_cons, List.nodup_cons, List.mem_cons, not_or] at z
      exact z.1.1 (by simpa using q)
    · exact q
  refine K e d _ tk h6 t6 hm.new (x1.new dnew) S.second ?_ S.head.ns1 (by rfl) ?_
  · intro q
    have z := S.nd
    simp only [List.map_cons, List.nodup_cons, List.mem_cons, not_or] at z
    exact z.1.1 q
  · refine x1.step S.ext (fun b hb => .inr ?_) (fun b hb => .inl hb) (fun b hb q => ?_)
    · rw [show b = e from by simpa using hb]; exact hm.new
    · obtain ⟨o, e'⟩ := C.ok.lv b q
      rw [show b = e from by simpa using hb] at e'
      exact nn_of e' hm.new

set_option maxHeartbeats 4000000 in
theorem spec_short {x : Str} {tx : Tok} {Q : Value → Shared → Prop} (hx : x.length ≤ 1000) (C : Cx c (n + 2) A outer h hv) (g : G c h)
    (K : ∀ e h' t', h.get? e = none → (∃ d, At h' e (Ex 58 d)) → Ext c [] (fsOf outer) h h' → Q (.ref e) (Mk s h' t')) :
    wpAny (model pw c.w) A (call (.ref 58) [.str x tx]) Q E (Mk s h t) := by
  obtain ⟨mN, hN, hi, _⟩ := ns_short g
  refine wpAny_call_exc_init (h := h) F.excBase_Exception (cls_short g) hN hi (g.X 55 _ (by rfl)) rfl (fun h1 e hm => ?_)
  obtain ⟨t0, he, htn, ht⟩ := hm.there
  have x1 : Ext c [] (fsOf outer) h h1 := (Ext.refl c [] _ h).keep hm.keeps
  have g1 : G c h1 := g.ext x1
  have C1 : Cx c (n + 1) (A.under (.builtin "type.__call__" ⟨[.ref 58, .str x tx], []⟩)) outer h1 hv := by
    exact (Cx.under C 58 [.str x tx]).at hm.keeps
  have P := pre_one (k := Ex 58 none) C g ⟨_, he, rfl, rfl, _, rfl, rfl, rfl, rfl⟩ hm.new
  show wpAny _ _ _ _ _ (Mk s h1 t)
  refine enter (binds := [(Str.ofString "self", .ref e), (Str.ofString "text", .str x tx)]) C1 g1 P (by rfl) (by rfl) rfl (by rfl) (by decide) (fun L h2 t2 S C2 => ?_)
  with_reducible refine x_expr ?_
  with_reducible refine x_callA ?_
  with_reducible refine x_blt S (b_Exception S.g) ?_
  with_reducible refine x_mtype (id := "Exception.__init__") S (fun t3 => ?_)
  with_reducible refine x_cwB ?_
  (with_reducible refine x_arg (x_loc (by assumption) (by with_unfolding_all rfl) ?_); with_reducible refine x_arg (x_loc (by assumption) (by with_unfolding_all rfl) ?_); with_reducible refine x_argN ?_)
  with_reducible refine ex_init S (cls_short S.g) rfl (fun h3 S => ?_)
  show wpAny _ _ _ _ _ _
  with_reducible refine x_asgAttr ?_
  (with_reducible refine x_loc (by assumption) (by with_unfolding_all rfl) ?_; with_reducible refine x_loc (by assumption) (by with_unfolding_all rfl) ?_)
  obtain ⟨mN, hN, _, n1, n2⟩ := ns_short S.g
  with_reducible refine ex_set1 S (cls_short S.g) hN n1 n2 (by rw [typeLookup_type, builtinLookup_eq_fast]; kernel_rfl) (fun h4 t4 d S => ?_)
  refine x_nil ⟨rfl, ?_⟩
  refine K e h4 t4 hm.new ⟨_, S.head⟩ ?_
  refine x1.step S.ext (fun b hb => .inr ?_) (fun b hb => .inl hb) (fun b hb q => ?_)
  · rw [show b = e from by simpa using hb]; exact hm.new
  · obtain ⟨o, e'⟩ := C.ok.lv b q
    rw [show b = e from by simpa using hb] at e'
    exact nn_of e' hm.new
end
end Mine

-- L9
set_option maxRecDepth 100000
set_option Elab.async false
set_option linter.unusedVariables false
namespace Mine
open PySem PySem.W PySem.Calls PyProof.Rows

/-- what may be handled at a raise -/
noncomputable def Hq (hv : Option Value) (h : Heap) : Prop := hv = none ∨ ∃ x ox vx, hv = some (.ref x) ∧ h.get? x = some ox ∧ ox.data = .fields vx ∧ vx[2]? = some .none

section
variable {M : Model} {c : Ct} {n : Nat} {outer : List Env} {D Fs : List Addr} {h0 h h' : Heap} {L a : Addr} {m m' : Str → Option Value} {led led' post news rest : Led} {A : Around} {E E' : Value → Shared → Prop} {s : Shared} {t : Nat} {name : Str} {scope : Scope} {cd : Value} {cY : List (Str × Addr)} {hv : Option Value} {env : Env} {p : Program} {w : World}

theorem Hq.toHd {e : Addr} (H : Hq hv h) (n : h.get? e = none) (k : ∀ b o, h.get? b = some o → (∀ es ep, o.data ≠ .dict es ep) → h'.get? b = some o) : Hd hv e h' := by
  rcases H with q | ⟨x, ox, vx, h1, h2, h3, h4⟩
  · exact .inl q
  · refine .inr ⟨x, ox, vx, h1, fun z => nn_of (z ▸ h2) n, k _ _ h2 fun es ep z => ?_, h3, h4⟩
    rw [h3] at z; cases z
theorem Hq.ext (H : Hq hv h) (f : FrOK c h outer) (x : Ext c [] (fsOf outer) h h') : Hq hv h' := by
  rcases H with q | ⟨x', ox, vx, h1, h2, h3, h4⟩
  · exact .inl q
  · refine .inr ⟨x', ox, vx, h1, x.same h2 (fun q => nomatch q) fun q => ?_, h3, h4⟩
    obtain ⟨_, o, es, ep, e, d⟩ := f.mem _ q
    rw [h2] at e; injection e with e; subst e
    rw [h3] at d; cases d
theorem Hq.keep (H : Hq hv h) (k : ∀ b o, h.get? b = some o → h'.get? b = some o) : Hq hv h' := by
  rcases H with q | ⟨x', ox, vx, h1, h2, h3⟩
  · exact .inl q
  · exact .inr ⟨x', ox, vx, h1, k _ _ h2, h3⟩

theorem Ext.toKp (x : Ext c [] Fs h h') : Kp h Fs h h' := fun b o _ e => ⟨fun n => x.same e (fun q => nomatch q) n, fun n => x.frame e n⟩
theorem Kp.keep {lo : Heap} {h1 h2 : Heap} {e : Addr} (x : Kp lo Fs h h1) (n : lo.get? e = none) (k : ∀ b o, b ≠ e → h1.get? b = some o → h2.get? b = some o) : Kp lo Fs h h2 := by
  refine x.trans fun b o l eb => ?_
  have nb : b ≠ e := fun q => l (q ▸ n)
  exact ⟨fun _ => k b o nb eb, fun _ => ⟨o.slots, k b o nb eb⟩⟩

theorem St.fok (S : St c outer D h0 L m led h) (hf : env.frame = some L) (hk : env.scope.kind = .function) : FrOK c h (env :: outer) := by
  obtain ⟨o, es, ep, e, d, _⟩ := S.ns
  exact ⟨by rw [hk]; exact fun e => (by cases e), ⟨L, o, es, ep, hf, S.nB S.Lf, e, d⟩, S.fo⟩
theorem St.cx {h1 : Heap} (S : St c outer D h0 L m led h) (C : Cx c n A (env :: outer) h1 hv) (hf : env.frame = some L := by with_unfolding_all rfl) (hk : env.scope.kind = .function := by with_unfolding_all rfl) : Cx c n A (env :: outer) h hv :=
  ⟨C.hd, C.dp, C.un, C.fr, S.fok hf hk⟩
theorem Cx.le {k : Nat} (C : Cx c n A outer h hv) (l : k ≤ n) : Cx c k A outer h hv := ⟨C.hd, by have := C.dp; (first | lia | omega), by have := C.un; (first | lia | omega), C.fr, C.ok⟩
theorem fs_cons (hf : env.frame = some L) : fsOf (env :: outer) = L :: fsOf outer := by unfold fsOf; rw [List.filterMap_cons, hf]

theorem FrOK.kp (f : FrOK c h outer) (k : Kp h (fsOf outer) h h') : FrOK c h' outer := f.of fun b o hb e => by
  obtain ⟨sl, e'⟩ := (k b o (fun q => nn_of e q) e).2 hb
  exact ⟨_, e', rfl⟩

/-- an exception leaves the frame of the body -/
theorem x_out {C : Addr} {k : Option Int} {e : Addr} {fl : Value} (S : St c outer D h0 L m led h) (hf : env.frame = some L) (hk : env.scope.kind = .function) (hfr : A.frames = some (env :: outer))
    (X : Fly h C k e fl h') (kp : Kp h (L :: fsOf outer) h h') (dD : ∀ b ∈ D, b ∉ fsOf outer)
    (K : ∀ h'', Fly h0 C k e .none h'' → Ext c D (fsOf outer) h0 h'' → E (.ref e) (Mk s h'' t)) :
    wpAny M A (leaving env (.ref e)) (fun _ s'' => E (.ref e) s'') E' (Mk s h' t) := by
  have fs := fs_cons (outer := outer) hf
  have fok := S.fok hf hk
  refine x_leave (c := c) X hfr (fok.kp (fs ▸ kp)) (fun b hb => ?_) (kp.lv (Lv.refl _)) hf fun h'' X' k' => ?_
  · obtain ⟨_, o, _, _, e, _⟩ := fok.mem b hb
    rw [e]; exact fun q => nomatch q
  · refine K h'' (X'.mono fun b n => S.old n) (S.ext.kp (lo := h) (Fs' := L :: fsOf outer) (kp.trans (fs ▸ k')) (fun b n => S.old n) (fun b hb => ?_) fun b hb => ?_)
    · rcases List.mem_cons.mp hb with rfl | hb
      · exact .inr S.Lf
      · exact .inl hb
    · exact (S.fo.mem b hb).1

/-- a QuicError is made and raised in a body -/
theorem x_quic {k : Int} {tk : Tok} {ft : Value} {x : Str} {tx : Tok} (hk : k = 1 ∨ k = 8) (hx : x.length ≤ 1000) (S : St c outer D h0 L m led h) (hf : env.frame = some L) (hkf : env.scope.kind = .function)
    {h1 : Heap} (C : Cx c (n + 2) A (env :: outer) h1 hv) (hq : Hq hv h)
    (K : ∀ e h' t', Fly h 38 (some k) e .none h' → Kp h (L :: fsOf outer) h h' → E (.ref e) (Mk s h' t')) :
    wpAny (model pw c.w) A (call (.ref 38) [.int k tk, ft, .str x tx]) (fun v s₁ => wpAny (model pw c.w) A (raiseStmt env (some (pure v)) none) (fun _ _ => False) E s₁) E (Mk s h t) := by
  have fs := fs_cons (outer := outer) hf
  have C' := S.cx C hf hkf
  refine spec_quic hk hx C' S.g (fun e d mA u h2 t2 e0 d0 ha nde hns hcode x2 => ?_)
  rw [fs] at x2
  have g2 := S.g.ext x2
  obtain ⟨o, he, hc, hdd, vs, hdt, hsz, v1, v2⟩ := ha
  have kp2 := x2.toKp
  refine x_raised (cls_quic g2) he hc hdt hsz v1 C.hd (hq.toHd e0 fun b o eb nd => x2.same eb (fun q => nomatch q) fun q => ?_) (fun _ => ?_) (fun _ h3 vs' kp3 he3 s3 v3 => ?_)
  · rw [← fs] at q
    obtain ⟨_, o', es, ep, e', d'⟩ := C'.ok.mem b q
    rw [eb] at e'; injection e' with e'; subst e'
    exact nd es ep d'
  · refine K e h2 t2 ⟨e0, o, vs, he, hc, hdt, hsz, fun q => (by cases q), .inl ⟨v1, rfl⟩, fun k' hk' => ?_⟩ kp2
    cases hk'
    exact ⟨d, mA, u, hdd, d0, nde, hns, hcode⟩
  · refine K e h3 t2 ⟨e0, _, vs', he3, hc, rfl, s3.trans hsz, fun q => (by cases q), .inl ⟨v3.trans v1, rfl⟩, fun k' hk' => ?_⟩ (kp2.keep e0 kp3)
    cases hk'
    obtain ⟨od, es, ep, q1, q2⟩ := hns
    exact ⟨d, mA, u, hdd, d0, nde, ⟨od, es, ep, kp3 _ _ nde q1, q2⟩, hcode⟩

/-- a Short is made and raised in a body, nothing being handled -/
theorem x_short {x : Str} {tx : Tok} (hx : x.length ≤ 1000) (S : St c outer D h0 L m led h) (hf : env.frame = some L) (hkf : env.scope.kind = .function)
    {h1 : Heap} (C : Cx c (n + 2) A (env :: outer) h1 none)
    (K : ∀ e h' t', Fly h 58 none e .none h' → Kp h (L :: fsOf outer) h h' → E (.ref e) (Mk s h' t')) :
    wpAny (model pw c.w) A (call (.ref 58) [.str x tx]) (fun v s₁ => wpAny (model pw c.w) A (raiseStmt env (some (pure v)) none) (fun _ _ => False) E s₁) E (Mk s h t) := by
  have fs := fs_cons (outer := outer) hf
  have C' := S.cx C hf hkf
  refine spec_short hx C' S.g (fun e h2 t2 e0 ha x2 => ?_)
  rw [fs] at x2
  have g2 := S.g.ext x2
  obtain ⟨d, o, he, hc, hdd, vs, hdt, hsz, v1, v2⟩ := ha
  refine x_raised (cls_short g2) he hc hdt hsz v1 C.hd (.inl rfl) (fun _ => ?_) (fun q => absurd rfl q)
  exact K e h2 t2 ⟨e0, o, vs, he, hc, hdt, hsz, fun _ => v2, .inl ⟨v1, rfl⟩, fun k' hk' => nomatch hk'⟩ x2.toKp


theorem pre_nil : Pre c Fs h [] := ⟨fun _ q => (nomatch q), List.nodup_nil, fun _ _ q => (nomatch q), fun _ q => (nomatch q)⟩
set_option maxHeartbeats 4000000 in
theorem spec_refuse {x : Str} {tx : Tok} {Q : Value → Shared → Prop} (hx : x.length ≤ 1000) (C : Cx c (n + 3) A outer h hv) (g : G c h) (hq : Hq hv h)
    (K : ∀ e h' t', Fly h 38 (some 8) e .none h' → Ext c [] (fsOf outer) h h' → E (.ref e) (Mk s h' t')) :
    wpAny (model pw c.w) A (call (.ref 198) [.str x tx]) Q E (Mk s h t) := by
  refine enter (binds := [(Str.ofString "text", .str x tx)]) C g pre_nil (by rfl) (by rfl) rfl (by rfl) (by decide) (fun L h2 t2 S C2 => ?_)
  with_reducible refine x_raiseSt ?_
  with_reducible refine x_call ?_
  with_reducible refine x_glob S (g_QuicError S.g) ?_
  refine x_cw (K := hd.heap_1 c.w.params) (by rfl) ?_
  with_reducible refine x_arg ?_
  with_reducible refine x_glob S (g_TRANSPORT_PARAMETER_ERROR S.g) ?_
  (with_reducible refine x_arg (i_int (fun _ _ => x_arg (x_loc (by assumption) (by with_unfolding_all rfl) ?_))); with_reducible refine x_argN ?_)
  refine ⟨S.g.X, ?_⟩
  refine x_quic (.inr rfl) hx S rfl rfl C2 (hq.ext C.ok S.ext) (fun e h3 t3 X kp => ?_)
  refine x_out S rfl rfl C2.fr X kp (fun b q => nomatch q) (fun h4 X4 x4 => K e h4 t3 X4 x4)
end
end Mine

-- L10
set_option maxRecDepth 100000
set_option Elab.async false
set_option linter.unusedVariables false
namespace Mine
open PySem PySem.W PySem.Calls PyProof.Rows

section
variable {M : Model} {c : Ct} {n : Nat} {outer : List Env} {D Fs : List Addr} {h0 h h' : Heap} {L a : Addr} {m m' : Str → Option Value} {led led' post news rest : Led} {A : Around} {E E' : Value → Shared → Prop} {s : Shared} {t : Nat} {name : Str} {scope : Scope} {cd : Value} {cY : List (Str × Addr)} {hv : Option Value} {env : Env} {p : Program} {w : World}

/-- the state goes on with what a flight keeps -/
theorem St.kp (S : St c outer D h0 L m led h) (k : Kp h (L :: fsOf outer) h h') (dD : ∀ b ∈ D, b ∉ fsOf outer) : St c outer D h0 L m led h' := by
  have up : ∀ b o, h.get? b = some o → (b ∉ L :: fsOf outer → h'.get? b = some o) ∧ (b ∈ L :: fsOf outer → ∃ sl, h'.get? b = some { o with slots := sl }) := fun b o e => k b o (fun q => nn_of e q) e
  have nlF : ∀ p ∈ led, p.1 ∉ L :: fsOf outer := fun p hp q => by
    have hm : p.1 ∈ led.map (·.1) := List.mem_map_of_mem hp
    rcases List.mem_cons.mp q with z | q
    · exact S.nL (z ▸ hm)
    · exact (S.nF _ q).2 hm
  have X : Ext c [] (L :: fsOf outer) h h' := fun b o e => by
    by_cases q : b ∈ L :: fsOf outer
    · obtain ⟨sl, e'⟩ := (up b o e).2 q
      refine ⟨_, e', fun z _ => absurd ?_ z, fun _ z => absurd q z, fun _ => rfl⟩
      rcases List.mem_cons.mp q with rfl | q
      · exact S.nB S.Lf
      · exact (S.fo.mem b q).1
    · exact ⟨o, (up b o e).1 q, fun _ _ => rfl, fun _ _ => rfl, fun z => absurd z q⟩
  refine ⟨S.g.ext X, S.ext.step X (fun b hb => nomatch hb) (fun b hb => ?_) (fun b hb => nomatch hb), S.n0, ?_, S.Lf, S.nd, S.nL, S.nF, fun p hp => ?_, S.own, S.hi, S.fo.ext X (fun b hb z => nomatch z)⟩
  · rcases List.mem_cons.mp hb with rfl | hb
    · exact .inr S.Lf
    · exact .inl hb
  · obtain ⟨o, es, ep, e, d, r⟩ := S.ns
    obtain ⟨sl, e'⟩ := (up _ _ e).2 (List.mem_cons_self ..)
    exact ⟨_, es, ep, e', d, r⟩
  · obtain ⟨o, e, q⟩ := S.lat p hp
    exact ⟨o, (up _ _ e).1 (nlF p hp), q⟩

theorem Cx.mark (C : Cx c n A outer h hv) (v : Value) : Cx c n (A.mark (some v)) outer h (some v) := ⟨rfl, C.dp, C.un, C.fr, C.ok⟩

/-- an own exception comes to the clause that names its class: the suite goes on -/
theorem x_catch {C : Addr} {nm q : Str} {N : Addr} {bs : List Value} {sn : List Str} {sub : List Value} {ab : Bool} {col : Option Bool} {dd : Option Addr} {k0 k1 k2 k3 k5 : Option Value} {newId : String}
    {k : Option Int} {e : Addr} {tx : Expr} {b₀ : Stmt} {suite : List Stmt} {pos : Pos} {Q : Flow → Shared → Prop} (S : St c outer D h0 L m led h) (hf : env.frame = some L) (hkf : env.scope.kind = .function) {h1 : Heap} (Cc : Cx c n A (env :: outer) h1 hv)
    (dD : ∀ b ∈ D, b ∉ fsOf outer)
    (hC : ∀ g, G c g → g.get? C = some (excClassObj nm q C N bs [.type "Exception", .type "BaseException", .type "object"] true sn sub ab col dd k0 k1 k2 k3 k5 newId))
    (X : Fly h C k e .none h') (kp : Kp h (L :: fsOf outer) h h')
    (ht : ∀ h2, St c outer D h0 L m led h2 → ∀ (Q : Value → Shared → Prop) E, Q (.ref C) (Mk s h2 t) → wpAny (model pw c.w) (A.mark (some (.ref e))) (eval tx env) Q E (Mk s h2 t))
    (H : ∀ h2, St c outer D h0 L m led h2 → Fly h C k e .none h2 →
      wpAny (model pw c.w) (A.mark (some (.ref e))) (execs (b₀ :: suite) env) Q (notedBy (model pw c.w) (A.mark (some (.ref e))) env (cameBackBy (model pw c.w) A env E)) (Mk s h2 t)) :
    wpAny (model pw c.w) A (noteFrame (.ref e) env) (fun _ s₂ => wpAny (model pw c.w) A (setFlight (.ref e) none) (fun _ s₃ => wpAny (model pw c.w) A (handleBy (.ref e) env [.ExceptHandler (some tx) none (b₀ :: suite) pos]) Q E s₃) E s₂) E (Mk s h' t) := by
  have fs := fs_cons (outer := outer) hf
  have fok := S.fok hf hkf
  have fl : ∀ b ∈ fsOf (env :: outer), h.get? b ≠ none := fun b hb => by
    obtain ⟨_, o, _, _, e, _⟩ := fok.mem b hb
    rw [e]; exact fun q => nomatch q
  refine x_note (c := c) X Cc.fr (fok.kp (fs ▸ kp)) fl (kp.lv (Lv.refl _)) hf fun h2 X2 k2 => ?_
  refine x_fly X2 (.inl (rawInt_ne _)) fun h3 X3 k3 => ?_
  have kp3 : Kp h (L :: fsOf outer) h h3 := (kp.trans (fs ▸ k2)).trans (k3.mono (Lv.refl _) fun b q => nomatch q)
  have S3 := S.kp kp3 dD
  obtain ⟨ge, oe, vs, he, hc, hd, hsz, hctx, htr, hcd⟩ := id X3
  refine wpAny_handleBy_cons (codeAny_handlers_test (ht h3 S3 _ _ ?_)) (by intro q; cases q)
  refine wpAny_excMatches_sub_self (h := h3) (hC h3 S3.g) he hc (by simp) ?_
  refine codeAny_handlers_suite ?_
  show wpAny _ _ _ _ _ (Mk s h3 t)
  refine x_fly X3 (.inr rfl) fun h4 X4 k4 => ?_
  exact H h4 (S.kp (kp3.trans (k4.mono (Lv.refl _) fun b q => nomatch q)) dD) X4

/-- an own exception is raised in a clause's suite: it goes on its way, in flight here -/
theorem x_again {C : Addr} {k : Option Int} {e : Addr} {v : Value} (S : St c outer D h0 L m led h) (hf : env.frame = some L) (hkf : env.scope.kind = .function) {h1 : Heap} (Cc : Cx c n A (env :: outer) h1 hv)
    (X : Fly h C k e .none h') (kp : Kp h (L :: fsOf outer) h h')
    (H : ∀ h2, Fly h C k e (rawInt L) h2 → Kp h (L :: fsOf outer) h h2 → E (.ref e) (Mk s h2 t)) :
    notedBy M (A.mark (some v)) env (cameBackBy M A env E) (.ref e) (Mk s h' t) := by
  have fs := fs_cons (outer := outer) hf
  have fok := S.fok hf hkf
  have fl : ∀ b ∈ fsOf (env :: outer), h.get? b ≠ none := fun b hb => by
    obtain ⟨_, o, _, _, e, _⟩ := fok.mem b hb
    rw [e]; exact fun q => nomatch q
  unfold notedBy
  refine x_note (c := c) X (by exact Cc.fr) (fok.kp (fs ▸ kp)) fl (kp.lv (Lv.refl _)) hf fun h2 X2 k2 => ?_
  refine x_back X2 (rawInt_ne _) hf fun h3 X3 k3 => ?_
  exact H h3 X3 ((kp.trans (fs ▸ k2)).trans (k3.mono (Lv.refl _) fun b q => nomatch q))

/-- from a callee's flight to this body's -/
theorem fly_here {C : Addr} {k : Option Int} {e : Addr} (hf : env.frame = some L) (x : Ext c [] (fsOf (env :: outer)) h h') : Kp h (L :: fsOf outer) h h' := by
  rw [fs_cons hf] at x; exact x.toKp

theorem x_try {body : List Stmt} {h₀ : ExceptHandler} {pos : Pos} {rest : List Stmt} {Q : Flow → Shared → Prop}
    (H : wpAny (model p w) A (execs body env) (fun f s₁ => match f with | .next => wpAny (model p w) A (execs rest env) Q E s₁ | f => Q f s₁)
      (fun e s₁ => wpAny (model p w) A (noteFrame e env) (fun _ s₂ => wpAny (model p w) A (setFlight e none) (fun _ s₃ => wpAny (model p w) A (handleBy e env [h₀]) (Nx (model p w) A env rest Q E) E s₃) E s₂) E s₁) s) :
    wpAny (model p w) A (execs (.Try body [h₀] [] [] pos :: rest) env) Q E s := by
  refine x_cons (wpAny_Try_except (wpAny_mono H (fun f s₁ q => ?_) fun _ _ q => q))
  cases f with
  | next => exact x_nil q
  | _ => exact q
end
end Mine

-- L11
set_option maxRecDepth 100000
set_option Elab.async false
set_option linter.unusedVariables false
namespace Mine
open PySem PySem.W PySem.Calls PyProof.Rows

section
variable {M : Model} {c : Ct} {n : Nat} {outer : List Env} {D Fs : List Addr} {h0 h h' : Heap} {L a : Addr} {m m' : Str → Option Value} {led led' post news rest : Led} {A : Around} {E E' : Value → Shared → Prop} {s : Shared} {t : Nat} {name : Str} {scope : Scope} {cd : Value} {cY : List (Str × Addr)} {hv : Option Value} {env : Env} {p : Program} {w : World}

/-- an object of ours is gone -/
theorem St.lose {I : Addr} {k : Kd} (S : St c outer D h0 L m ((I, k) :: led) h) (hI : h0.get? I = none) (hk : ∀ b o, b ≠ I → h.get? b = some o → h'.get? b = some o) : St c outer D h0 L m led h' := by
  have IB : c.B.get? I = none := S.nB hI
  have In : I ∉ led.map (·.1) := (List.nodup_cons.mp S.nd).1
  have IL : I ≠ L := fun e => S.nL (e ▸ List.mem_cons_self ..)
  have IF : ∀ b ∈ fsOf outer, b ≠ I := fun b hb e => (S.nF b hb).2 (e ▸ List.mem_cons_self ..)
  have lowk : ∀ b o, c.B.get? b ≠ none → h.get? b = some o → h'.get? b = some o := fun b o l e => hk b o (fun q => l (q ▸ IB)) e
  have nsk : ∀ b m, h.Ns b m → c.B.get? b ≠ none → h'.Ns b m := fun b m ⟨o, es, ep, e, r⟩ l => ⟨o, es, ep, lowk _ _ l e, r⟩
  refine ⟨⟨fun x o e => ?_, ⟨nsk _ _ S.g.T.g (S.g.low (by rw [keys_eq]; decide)), nsk _ _ S.g.T.b S.g.b0, ?_, S.g.T.builtins, S.g.T.free⟩, S.g.kb, S.g.b0, fun b o e => ?_⟩, fun b o e => ?_, S.n0, ?_, S.Lf, (List.nodup_cons.mp S.nd).2, fun q => S.nL (List.mem_cons_of_mem _ q), fun b hb => ⟨(S.nF b hb).1, fun q => (S.nF b hb).2 (List.mem_cons_of_mem _ q)⟩, fun q hq => ?_, fun q hq => S.own q (List.mem_cons_of_mem _ hq), fun q hq => S.hi q (List.mem_cons_of_mem _ hq), S.fo.of fun b o hb e => ⟨o, hk b o (IF b hb) e, rfl⟩⟩
  · exact lowk _ _ (by rw [S.g.kb _ _ e]; exact fun h => nomatch h) (S.g.X x o e)
  · obtain ⟨mc, q1, q2⟩ := S.g.T.nolimit
    exact ⟨mc, nsk _ _ q1 (S.g.low (by rw [keys_eq]; decide)), q2⟩
  · obtain ⟨o', e'⟩ := S.g.n1 b o e
    exact ⟨o', lowk _ _ (by rw [e]; exact fun h => nomatch h) e'⟩
  · obtain ⟨o', e', r⟩ := S.ext b o e
    exact ⟨o', hk _ _ (fun q => nn_of e (q ▸ hI)) e', r⟩
  · obtain ⟨o, es, ep, e, r⟩ := S.ns
    exact ⟨o, es, ep, hk _ _ IL.symm e, r⟩
  · obtain ⟨o, e, r⟩ := S.lat q (List.mem_cons_of_mem _ hq)
    exact ⟨o, hk _ _ (fun z => In (z ▸ List.mem_map_of_mem hq)) e, r⟩

/-- kinds of iterators -/
noncomputable def ItL (a : Addr) (i : Nat) : Kd := fun o => o.cls = .type "list_iterator" ∧ o.data = .fields #[.ref a, .int i 0]
noncomputable def ItT (a : Addr) (i : Nat) : Kd := fun o => o.cls = .type "tuple_iterator" ∧ o.data = .fields #[.ref a, .int i 0]
noncomputable def ItB (b : Array UInt8) (u : Tok) (i : Nat) : Kd := fun o => o.cls = .type "bytes_iterator" ∧ o.data = .fields #[.bytes b u, .int i 0]
noncomputable def ItR (x left step : Int) : Kd := fun o => o = { cls := .type "range_iterator", dict := none, data := .fields #[rawInt x, rawInt left, rawInt step], slots := #[] }
noncomputable def Rng (x y z : Int) : Kd := fun o => ∃ t u v, o = { cls := .type "range", dict := none, data := .fields #[.int x t, .int y u, .int z v], slots := #[] }
theorem At.itL {I l : Addr} {i : Nat} (x : At h I (ItL l i)) : h.IsListIter I l i := let ⟨o, e, c, d⟩ := x; ⟨o, e, c, d⟩
theorem At.itT {I l : Addr} {i : Nat} (x : At h I (ItT l i)) : h.IsTupleIter I l i := let ⟨o, e, c, d⟩ := x; ⟨o, e, c, d⟩
theorem At.itB {I : Addr} {b : Array UInt8} {u : Tok} {i : Nat} (x : At h I (ItB b u i)) : KBw.IsBytesIter h I b u i := let ⟨o, e, c, d⟩ := x; ⟨o, e, c, d⟩
theorem At.itR {I : Addr} {x l z : Int} (y : At h I (ItR x l z)) : IsRangeIter h I x l z := by obtain ⟨o, e, rfl⟩ := y; exact e
theorem At.tupl {xs : List Value} (x : At h a (Tup xs)) : h.IsTuple a xs.toArray := let ⟨o, e, c, n, d⟩ := x; ⟨o, e, c, n, d⟩

theorem iter_list {xs : List Value} {Q : Value → Shared → Prop} (S : St c outer D h0 L m led h) (ha : At h a (Lst xs))
    (H : ∀ I h', h0.get? I = none → St c outer D h0 L m ((I, ItL a 0) :: led) h' → (∀ b o, h.get? b = some o → h'.get? b = some o) → Q (.ref I) (Mk s h' t)) : wpAny (model p w) A (pyIter (.ref a)) Q E (Mk s h t) :=
  wpAny_pyIter_list (s := Mk s h t) ha.list (H _ _ (S.old (new_size h)) (S.push _ _ ⟨rfl, rfl⟩) fun b o e => Heap.get?_push_of_some _ e)
theorem iter_tup {xs : List Value} {Q : Value → Shared → Prop} (S : St c outer D h0 L m led h) (ha : At h a (Tup xs))
    (H : ∀ I h', h0.get? I = none → St c outer D h0 L m ((I, ItT a 0) :: led) h' → (∀ b o, h.get? b = some o → h'.get? b = some o) → Q (.ref I) (Mk s h' t)) : wpAny (model p w) A (pyIter (.ref a)) Q E (Mk s h t) :=
  wpAny_pyIter_tuple (s := Mk s h t) ha.tupl (H _ _ (S.old (new_size h)) (S.push _ _ ⟨rfl, rfl⟩) fun b o e => Heap.get?_push_of_some _ e)
theorem iter_bytes {b : Array UInt8} {u : Tok} {Q : Value → Shared → Prop} (S : St c outer D h0 L m led h)
    (H : ∀ I h', h0.get? I = none → St c outer D h0 L m ((I, ItB b u 0) :: led) h' → (∀ b o, h.get? b = some o → h'.get? b = some o) → Q (.ref I) (Mk s h' t)) : wpAny (model p w) A (pyIter (.bytes b u)) Q E (Mk s h t) :=
  KBw.pyIter_bytes (s := Mk s h t) (H _ _ (S.old (new_size h)) (S.push _ _ ⟨rfl, rfl⟩) fun b o e => Heap.get?_push_of_some _ e)
theorem iter_range {x y z : Int} {Q : Value → Shared → Prop} (S : St c outer D h0 L m led h) (ha : At h a (Rng x y z)) (hs : Builtin.Range.small x y z = true)
    (H : ∀ I h', h0.get? I = none → St c outer D h0 L m ((I, ItR x (Builtin.Range.rangeSize x y z) z) :: led) h' → (∀ b o, h.get? b = some o → h'.get? b = some o) → Q (.ref I) (Mk s h' t)) : wpAny (model p w) A (pyIter (.ref a)) Q E (Mk s h t) := by
  obtain ⟨o, e, t1, u1, v1, rfl⟩ := ha
  exact wpAny_pyIter_range (s := Mk s h t) e hs (H _ _ (S.old (new_size h)) (S.push _ _ rfl) fun b o e => Heap.get?_push_of_some _ e)

theorem next_list {I : Addr} {xs : List Value} {i : Nat} {x : Value} {Q : Option Value → Shared → Prop} (S : St c outer D h0 L m ((I, ItL a i) :: led) h) (ha : At h a (Lst xs)) (hx : xs[i]? = some x)
    (H : ∀ h', St c outer D h0 L m ((I, ItL a (i + 1)) :: led) h' → (∀ b o, b ≠ I → h.get? b = some o → h'.get? b = some o) → Q (some x) (Mk s h' t)) : wpAny (model p w) A (pyNext (.ref I)) Q E (Mk s h t) :=
  wpAny_pyNext_list_item (s := Mk s h t) S.head.itL ha.list (by simpa using hx) fun h' i' sb => H h' (S.upd sb (let ⟨o, e, c, d⟩ := i'; ⟨o, e, c, d⟩)) fun b o ne e => (sb.2 b ne).trans e
theorem next_tup {I : Addr} {xs : List Value} {i : Nat} {x : Value} {Q : Option Value → Shared → Prop} (S : St c outer D h0 L m ((I, ItT a i) :: led) h) (ha : At h a (Tup xs)) (hx : xs[i]? = some x)
    (H : ∀ h', St c outer D h0 L m ((I, ItT a (i + 1)) :: led) h' → (∀ b o, b ≠ I → h.get? b = some o → h'.get? b = some o) → Q (some x) (Mk s h' t)) : wpAny (model p w) A (pyNext (.ref I)) Q E (Mk s h t) :=
  wpAny_pyNext_tuple_item (s := Mk s h t) S.head.itT ha.tupl (by simpa using hx) fun h' i' sb => H h' (S.upd sb (let ⟨o, e, c, d⟩ := i'; ⟨o, e, c, d⟩)) fun b o ne e => (sb.2 b ne).trans e
theorem next_bytes {I : Addr} {b : Array UInt8} {u : Tok} {i : Nat} {x : UInt8} {Q : Option Value → Shared → Prop} (S : St c outer D h0 L m ((I, ItB b u i) :: led) h) (hx : b[i]? = some x)
    (H : ∀ h' v t', St c outer D h0 L m ((I, ItB b u (i + 1)) :: led) h' → (∀ b o, b ≠ I → h.get? b = some o → h'.get? b = some o) → Q (some (.int (x.toNat : Int) v)) (Mk s h' t')) : wpAny (model p w) A (pyNext (.ref I)) Q E (Mk s h t) :=
  KBw.next_item (s := Mk s h t) S.head.itB hx fun h' i' sb => H h' _ _ (S.upd sb (let ⟨o, e, c, d⟩ := i'; ⟨o, e, c, d⟩)) fun b o ne e => (sb.2 b ne).trans e
theorem next_range {I : Addr} {x left step : Int} {Q : Option Value → Shared → Prop} (S : St c outer D h0 L m ((I, ItR x left step) :: led) h) (hl : 0 < left)
    (H : ∀ h' v t', St c outer D h0 L m ((I, ItR (x + step) (left - 1) step) :: led) h' → (∀ b o, b ≠ I → h.get? b = some o → h'.get? b = some o) → Q (some (.int x v)) (Mk s h' t')) : wpAny (model p w) A (pyNext (.ref I)) Q E (Mk s h t) :=
  wpAny_pyNext_range_item (s := Mk s h t) S.head.itR hl fun h' i' sb => H h' _ _ (S.upd sb ⟨_, i', rfl⟩) fun b o ne e => (sb.2 b ne).trans e

theorem end_list {I : Addr} {xs : List Value} {i : Nat} {Q : Option Value → Shared → Prop} (S : St c outer D h0 L m ((I, ItL a i) :: led) h) (hI : h0.get? I = none) (ha : At h a (Lst xs)) (hx : xs[i]? = none) (hh : A.handled = none)
    (H : ∀ h', St c outer D h0 L m led h' → Q none (Mk s h' t)) : wpAny (model p w) A (pyNext (.ref I)) Q E (Mk s h t) :=
  wpAny_pyNext_list_end (s := Mk s h t) hh S.head.itL ha.list (by simpa using hx) fun h' eb => H h' (S.lose hI fun b o ne e => eb b o ne e)
theorem end_tup {I : Addr} {xs : List Value} {i : Nat} {Q : Option Value → Shared → Prop} (S : St c outer D h0 L m ((I, ItT a i) :: led) h) (hI : h0.get? I = none) (ha : At h a (Tup xs)) (hx : xs[i]? = none) (hh : A.handled = none)
    (H : ∀ h', St c outer D h0 L m led h' → Q none (Mk s h' t)) : wpAny (model p w) A (pyNext (.ref I)) Q E (Mk s h t) :=
  wpAny_pyNext_tuple_end (s := Mk s h t) hh S.head.itT ha.tupl (by simpa using hx) fun h' eb => H h' (S.lose hI fun b o ne e => eb b o ne e)
theorem end_bytes {I : Addr} {b : Array UInt8} {u : Tok} {i : Nat} {Q : Option Value → Shared → Prop} (S : St c outer D h0 L m ((I, ItB b u i) :: led) h) (hI : h0.get? I = none) (hx : b[i]? = none) (hh : A.handled = none)
    (H : ∀ h', St c outer D h0 L m led h' → Q none (Mk s h' t)) : wpAny (model p w) A (pyNext (.ref I)) Q E (Mk s h t) :=
  KBw.next_end (s := Mk s h t) hh S.head.itB hx fun h' eb => H h' (S.lose hI fun b o ne e => eb b o ne e)
theorem end_range {I : Addr} {x left step : Int} {Q : Option Value → Shared → Prop} (S : St c outer D h0 L m ((I, ItR x left step) :: led) h) (hI : h0.get? I = none) (hl : left ≤ 0) (hh : A.handled = none)
    (H : ∀ h', St c outer D h0 L m led h' → Q none (Mk s h' t)) : wpAny (model p w) A (pyNext (.ref I)) Q E (Mk s h t) :=
  wpAny_pyNext_range_end (s := Mk s h t) hh S.head.itR hl fun h' eb => H h' (S.lose hI fun b o ne e => eb b o ne e)

/-- how a loop's turn ends -/
noncomputable def Turn (c : Ct) (outer : List Env) (D : List Addr) (h0 : Heap) (L : Addr) (J : Nat → (Str → Option Value) → Led → Prop) (s : Shared) (M : Model) (A : Around) (env : Env) (rest : List Stmt) (Q : Flow → Shared → Prop) (E : Value → Shared → Prop) (i : Nat) (f : Flow) (s₃ : Shared) : Prop :=
  match f with
  | .next | .cont => ∃ m led h t, s₃ = Mk s h t ∧ St c outer D h0 L m led h ∧ J i m led
  | .brk => wpAny M A (execs rest env) Q E s₃
  | .ret v => Q (.ret v) s₃

/-- what an exception within a loop meets -/
noncomputable def EL (M : Model) (A : Around) (env : Env) (E : Value → Shared → Prop) : Value → Shared → Prop := notedBy M A env (cameBackBy M A env E)

theorem x_loop {target : Expr} {it : Value} {body : List Stmt} {rest : List Stmt} {Q : Flow → Shared → Prop} (k : Nat) (J : Nat → (Str → Option Value) → Led → Prop)
    (S : St c outer D h0 L m led h) (hJ : J 0 m led)
    (turn : ∀ i m led h t, i < k → St c outer D h0 L m led h → J i m led → wpAny (model p w) A (pyNext it) (fun r s₁ => match r with
      | none => False
      | some v => wpAny (model p w) A (letOwnedTupleGo target it v) (fun _ s₁' => wpAny (model p w) A (assign target env v) (fun _ s₂ => wpAny (model p w) A (execs body env) (Turn c outer D h0 L J s (model p w) A env rest Q E (i + 1)) (EL (model p w) A env E) s₂)
          (EL (model p w) A env E) s₁') (EL (model p w) A env E) s₁) (EL (model p w) A env E) (Mk s h t))
    (last : ∀ m led h t, St c outer D h0 L m led h → J k m led → wpAny (model p w) A (pyNext it) (fun r s₁ => match r with
      | none => wpAny (model p w) A (execs rest env) Q E s₁
      | some v => False) (EL (model p w) A env E) (Mk s h t)) :
    codeAny (model p w) A (.forLoop target it body [] env) (fun r s' => match r with | .ok f => Nx (model p w) A env rest Q E f s' | .error e => cameBackBy (model p w) A env E e s') (Mk s h t) := by
  refine codeAny_forLoop_any (fun n s' => ∃ i m led h t, n = k - i ∧ i ≤ k ∧ s' = Mk s h t ∧ St c outer D h0 L m led h ∧ J i m led) (fun n s' hI => ?_) (k - 0) ⟨0, m, led, h, t, rfl, Nat.zero_le _, rfl, S, hJ⟩
  obtain ⟨i, m, led, h, t, rfl, hi, rfl, S, hJ⟩ := hI
  by_cases q : i < k
  · refine wpAny_mono (turn i m led h t q S hJ) (fun r s₁ z => ?_) fun _ _ z => z
    cases r with
    | none => exact z.elim
    | some v =>
      refine wpAny_mono z (fun _ s₂ z => wpAny_mono z (fun _ s₃ z => wpAny_mono z (fun f s₄ z => ?_) fun _ _ z => z) fun _ _ z => z) fun _ _ z => z
      cases f with
      | next => obtain ⟨m, led, h, t, rfl, S, hJ⟩ := z; exact ⟨k - (i + 1), by (first | lia | omega), i + 1, m, led, h, t, rfl, q, rfl, S, hJ⟩
      | cont => obtain ⟨m, led, h, t, rfl, S, hJ⟩ := z; exact ⟨k - (i + 1), by (first | lia | omega), i + 1, m, led, h, t, rfl, q, rfl, S, hJ⟩
      | brk => exact z
      | ret v => exact z
  · obtain rfl : i = k := Nat.le_antisymm hi (Nat.not_lt.mp q)
    refine wpAny_mono (last m led h t S hJ) (fun r s₁ z => ?_) fun _ _ z => z
    cases r with
    | none => exact x_nil z
    | some v => exact z.elim

theorem x_for {target iter : Expr} {body : List Stmt} {pos : Pos} {rest : List Stmt} {Q : Flow → Shared → Prop}
    (H : wpAny M A (eval iter env) (fun x s₁ => wpAny M A (pyIter x) (fun it s₂ =>
      codeAny M A (.forLoop target it body [] env) (fun r s' => match r with | .ok f => Nx M A env rest Q E f s' | .error e => cameBackBy M A env E e s') s₂) E s₁) E s)
    (hs : ∀ x, foldedSetIterable iter env x = pure x := by intro _; with_unfolding_all rfl) : wpAny M A (execs (.For target iter body [] pos :: rest) env) Q E s :=
  x_cons (wpAny_For H hs)

/-- the name of a loop -/
theorem x_turn {x : Str} {ps : Pos} {it v : Value} {body : List Stmt} {R : Flow → Shared → Prop} {EB : Value → Shared → Prop} (S : St c outer D h0 L m led h)
    (H : ∀ h' t', St c outer D h0 L (fun y => if y = x then some v else m y) led h' → wpAny (model p w) A (execs body (envY name scope L a cd cY)) R EB (Mk s h' t'))
    (hk : scope.kind = .function := by with_unfolding_all rfl) (hl : (envY name scope L a cd cY).kindOf x = some .local := by with_unfolding_all rfl) :
    wpAny (model p w) A (letOwnedTupleGo (.Name x ps) it v) (fun _ s₁' => wpAny (model p w) A (assign (.Name x ps) (envY name scope L a cd cY) v) (fun _ s₂ => wpAny (model p w) A (execs body (envY name scope L a cd cY)) R EB s₂) EB s₁') EB (Mk s h t) :=
  wpAny_of_eq (a := ()) rfl (wpAny_assign_Name (x_store S H hk hl))
end
end Mine

-- P1

-- P2
set_option maxRecDepth 100000
set_option Elab.async false
set_option linter.unusedVariables false
namespace Mine
open PySem PySem.W PySem.Calls PyProof.Rows
open Sem (wp)

section
variable {prog : Program} {w : World} {A : Around} {E : Value → Shared → Prop} {R : Result → Shared → Prop} {s : Shared}

theorem codeC_func {body : List Stmt} {env : Env}
    (h : wpC (model prog w) (A.deeper env) (execs body env) (fun f s' => R (.ok (.ret (match f with | .ret v => v | _ => .none))) s')
      (fun e s' => wpAny (model prog w) (A.deeper env) (leaving env e) (fun _ s'' => R (.error e) s'') (fun e' s'' => R (.error e') s'') s') s) :
    codeC (model prog w) A (.func body env) R s := by
  refine codeC_of_tree rfl ?_
  show wpC _ (A.deeper env) (do point; match ← (execs body env).onRaise (leaving env) with | .ret v => ret v | _ => ret .none) _ _ s
  refine wpC_step (wpAny_point (wpC_bind (wpC_onRaise (wpC_mono h (fun f s' h' => ?_) fun _ _ h' => h'))))
  cases f <;> exact wpC_pure h'

theorem codeC_call_def {a : Addr} {o : Obj} {fd : FuncData} {body : List Stmt} {args : Args} {binds : List (Str × Value)}
    (hroom : A.depth < recursionLimit) (ho : s.heap.get? a = some o) (hdata : o.data = .func fd) (hlim : s.heap.NoLimit) (hcd : s.heap.CodeRec fd.code fd.qualname)
    (hbody : fd.body = .stmts body) (hbind : BindsTo s fd args binds)
    (hcell : ∀ x ∈ fd.scope.names, x.2 ≠ .cell) (hloc : ∀ x ∈ binds, fd.scope.names.lookup x.1 = some .local)
    (h : ∀ h₀, h₀.Ns s.heap.objs.size (fun x => binds.reverse.lookup x) → (∀ b o, s.heap.get? b = some o → h₀.get? b = some o) →
      wpC (model prog w) (A.deeper (callEnv fd s.heap.objs.size a)) (execs body (callEnv fd s.heap.objs.size a)) (fun f s' => R (.ok (.ret (match f with | .ret v => v | _ => .none))) s')
        (fun e s' => wpAny (model prog w) (A.deeper (callEnv fd s.heap.objs.size a)) (leaving (callEnv fd s.heap.objs.size a) e) (fun _ s'' => R (.error e) s'') (fun e' s'' => R (.error e') s'') s')
        { s with heap := h₀, toks := s.toks + binds.length })
    (hco : fd.scope.isCoroutine = false := by rfl) (hgen : fd.scope.isGenerator = false := by rfl) (hk : fd.scope.kind = .function := by rfl) :
    codeC (model prog w) A (.call (.ref a) args) R s := by
  refine codeC_of_tree rfl ?_
  show wpC _ A.in1 (callAny (.ref a) args) _ _ s
  simp only [callAny]
  refine wpC_step (wpAny_load ho ?_)
  obtain ⟨c, oc, vs, tq, hc, hoc, hdc, hq⟩ := hcd
  simp only [hdata, callFunction, hco, hgen, hbody, hc]
  refine wpC_step (m := field (.ref c) 1) (wpAny_field hoc hdc hq ?_)
  refine wpC_step (wpAny_pure ?_)
  refine wpC_step (hbind _ _ _ _ ?_)
  refine wpC_step (wpAny_newFunctionEnv hcell hloc (fun h₀ hns₀ hsb₀ => ?_) hk)
  refine wpC_step (wpAny_enterFrame (hlim.fresh _ hsb₀) hroom ?_)
  refine wpC_pure (And.intro rfl (codeC_func ?_))
  have z := h h₀ hns₀ (fun b o e => hsb₀.extBut b o (Nat.ne_of_lt (Heap.lt_size e)) (Heap.get?_push_of_some _ e))
  unfold callEnv at z
  rw [hc] at z
  exact z
end

section
variable {M : Model} {A : Around} {E : Value → Shared → Prop} {s : Shared} {env : Env} {rest : List Stmt} {Q : Flow → Shared → Prop}
noncomputable def NxC (M : Model) (A : Around) (env : Env) (rest : List Stmt) (Q : Flow → Shared → Prop) (E : Value → Shared → Prop) (f : Flow) (s : Shared) : Prop :=
  match f with
  | .next => wpC M A (execs rest env) Q E s
  | f => Q f s
theorem p_cons {st : Stmt} (h : wpC M A (exec st env) (NxC M A env rest Q E) E s) : wpC M A (execs (st :: rest) env) Q E s := by
  rw [execs_cons]
  refine wpC_bind (wpC_mono h (fun f s' z => ?_) fun _ _ z => z)
  cases f with
  | next => exact z
  | _ => exact wpC_pure z
theorem p_consA {st : Stmt} (h : wpAny M A (exec st env) (NxC M A env rest Q E) E s) : wpC M A (execs (st :: rest) env) Q E s := p_cons (wpC_of h)
theorem p_nil (H : Q .next s) : wpC M A (execs [] env) Q E s := wpC_of (wpAny_execs_nil H)
theorem p_ret {e : Expr} {pos : Pos} (H : wpC M A (eval e env) (fun v => Q (.ret v)) E s) : wpC M A (execs (.Return (some e) pos :: rest) env) Q E s := by
  refine p_cons ?_
  rw [exec_Return_some]
  exact wpC_step (wpAny_standAt (wpC_bind (wpC_mono H (fun v s' z => wpC_pure z) fun _ _ z => z)))
theorem p_asg {x : Str} {p pos : Pos} {e : Expr} (H : wpC M A (eval e env) (fun v s₁ => wpAny M A (storeName env x v) (fun _ s₂ => wpC M A (execs rest env) Q E s₂) E s₁) E s)
    (hs : swapsWith e (some (.Name x p)) pos.line env = pure false := by with_unfolding_all rfl) : wpC M A (execs (.Assign [.Name x p] e pos :: rest) env) Q E s := by
  refine p_cons ?_
  rw [exec_Assign_Name env x p e pos hs]
  exact wpC_step (wpAny_standAt (wpC_bind (wpC_mono H (fun v s' z => wpC_step (wpAny_standAt (wpC_step (wpAny_bindName (wpAny_mono z (fun _ s'' y => wpC_pure y) fun _ _ y => y))))) fun _ _ z => z)))
theorem p_if {test : Expr} {body orelse : List Stmt} {pos : Pos}
    (H : wpAny M A (isTrue test env (eval test env)) (fun b s₂ => (b = true → wpC M A (execs body env) (NxC M A env rest Q E) E s₂) ∧ (b = false → wpC M A (execs orelse env) (NxC M A env rest Q E) E s₂)) E s) :
    wpC M A (execs (.If test body orelse pos :: rest) env) Q E s := by
  refine p_cons ?_
  rw [exec_If]
  refine wpC_step (wpAny_standAt (wpC_step (wpAny_mono H (fun b s' z => ?_) fun _ _ z => z)))
  cases b with
  | true => exact z.1 rfl
  | false => exact z.2 rfl
theorem p_nilN {env' : Env} {rest' : List Stmt} (H : wpC M A (execs rest' env') Q E s) : wpC M A (execs [] env) (NxC M A env' rest' Q E) E s := p_nil H

variable {QV : Value → Shared → Prop}
theorem p_bin {l r : Expr} {op : Operator} {pos : Pos}
    (h : wpC M A (eval l env) (fun a s₁ => wpC M A (eval r env) (fun b s₂ => wpAny M A (binaryOp op a b) QV E s₂) E s₁) E s) : wpC M A (eval (.BinOp l op r pos) env) QV E s := by
  rw [eval_BinOp]
  exact wpC_bind (wpC_mono h (fun a s₁ z => wpC_bind (wpC_holding (wpC_mono z (fun b s₂ z => wpC_step (wpAny_standAt (wpC_operate (wpC_of z)))) fun _ _ z => z))) fun _ _ z => z)
theorem p_call {f : Str} {np pos : Pos} {args : List Expr}
    (H : wpAny M A (eval (.Name f np) env) (fun fv s₁ => wpC M A (callWith pos fv [] (backTo pos (starEach args env)) []) QV E s₁) E s) : wpC M A (eval (.Call (.Name f np) args [] pos) env) QV E s := by
  show wpC M A (do callWith pos (← eval (.Name f np) env) [] (backTo pos (starEach args env)) (backToKw pos (keywordEach [] env))) QV E s
  exact wpC_step H
theorem p_cwA {P : Heap → Prop} {f : Value} {first : List Value} {pos : Pos} {args : List (Bool × Sem Value)} (hplain : (args.any (·.1) || ([] : List (Option Str × Sem Value)).any (·.1.isNone)) = false)
    (hk : ∀ h, P h → ∃ k, (k = Keeper.frame ∨ k = Keeper.machine ∨ k = Keeper.boundFrame) ∧ Looks M h (keeperOf f) k)
    (h : wpAny M A (evalArgs f true args []) (fun a s₁ => P s₁.heap ∧ wpC M A (call f (first ++ a.pos) a.kw) QV E s₁) E s) : wpC M A (callWith pos f first args []) QV E s := by
  unfold callWith
  refine wpC_step (wpAny_holding (wpAny_mono h (fun a s₁ h₁ => wpC_step (wpAny_standAt ?_)) fun _ _ x => x))
  obtain ⟨k, hk', L⟩ := hk _ h₁.1
  simp only [hplain]
  refine wpC_step (L.here ?_)
  have tail : ∀ {t : Sem Value}, wpC M A t QV E s₁ → wpC M A (t >>= fun r => holding [r] point >>= fun _ => pure r) QV E s₁ :=
    fun ht => wpC_bind (wpC_mono ht (fun r s₂ hr => wpC_step (wpAny_holding (wpAny_point (wpC_pure hr)))) fun _ _ x => x)
  have marked (mk : Value) : wpC M A (callMarked mk f (first ++ a.pos) a.kw) QV E s₁ := by unfold callMarked; exact wpC_keep h₁.2
  rcases hk' with rfl | rfl | rfl <;> dsimp only <;> first | exact tail h₁.2 | (split <;> first | exact tail h₁.2 | exact tail (marked _))
theorem p_cw {K : Frag} {f : Value} {pos : Pos} {e : Expr} {es : List Expr} (hk : keepIn K f = true)
    (H : wpAny M A (spliced (backTo pos (starEach (e :: es) env))) (fun vs s₁ => K.In s₁.heap ∧ wpC M A (call f vs) QV E s₁) E s)
    (he : starEach (e :: es) env = (false, eval e env) :: starEach es env := by with_unfolding_all rfl) (hplain : (backTo pos (starEach es env)).any (·.1) = false := by with_unfolding_all rfl) :
    wpC M A (callWith pos f [] (backTo pos (starEach (e :: es) env)) []) QV E s := by
  rw [he] at H ⊢
  exact p_cwA (by show ((false || (backTo pos (starEach es env)).any (·.1)) || false) = false; rw [hplain]; rfl) (keeps_K hk) (evalArgs_plain H)
theorem p_cwT {T : String} {pos : Pos} {e : Expr} {es : List Expr}
    (H : wpAny M A (spliced (backTo pos (starEach (e :: es) env))) (fun vs s₁ => wpC M A (call (.type T) vs) QV E s₁) E s)
    (he : starEach (e :: es) env = (false, eval e env) :: starEach es env := by with_unfolding_all rfl) (hplain : (backTo pos (starEach es env)).any (·.1) = false := by with_unfolding_all rfl) :
    wpC M A (callWith pos (.type T) [] (backTo pos (starEach (e :: es) env)) []) QV E s := by
  rw [he] at H ⊢
  exact p_cwA (P := fun _ => True) (by show ((false || (backTo pos (starEach es env)).any (·.1)) || false) = false; rw [hplain]; rfl) (fun h _ => ⟨.machine, .inr (.inl rfl), Looks.of_pure rfl⟩)
    (evalArgs_plain (wpAny_mono H (fun vs s' z => ⟨trivial, z⟩) fun _ _ z => z))
end

section
variable {c : Ct} {n : Nat} {outer : List Env} {D Fs : List Addr} {h0 h h' : Heap} {L a : Addr} {m m' : Str → Option Value} {led led' post news rest : Led} {A : Around} {E E' : Value → Shared → Prop} {s : Shared} {t : Nat} {name : Str} {scope : Scope} {cd : Value} {cY : List (Str × Addr)} {hv : Option Value} {env : Env} {p : Program} {w : World}

theorem enterC {f : Addr} {args : List Value} {binds : List (Str × Value)} {pre : Led} {Q : Value → Shared → Prop} {nm qual : Str} {params : Arguments} {body : List Stmt} {dV kV doc pm cdv ct oc : Value} {an od : Option Addr} {osl : Array (Option Value)}
    (C : Cx c (n + 1) A outer h hv) (g : G c h) (P : Pre c (fsOf outer) h pre)
    (ho : (hd.heap_1 c.w.params).lookup f = some ⟨oc, od, .func (fnOf nm qual params body scope dV kV doc pm an cdv ct), osl⟩)
    (hcd : codeIn (hd.heap_1 c.w.params) cdv qual = true)
    (hbind : bindArgs (fnOf nm qual params body scope dV kV doc pm an cdv ct) ⟨args, []⟩ = pure binds)
    (hloc : (binds.all fun x => decide (scope.names.lookup x.1 = some .local)) = true)
    (hcell : ∀ x ∈ scope.names, x.2 ≠ .cell)
    (H : ∀ L h1 t1, St c outer (pre.map (·.1)) h L (fun x => binds.reverse.lookup x) pre h1 → Cx c n (A.deeper (envY qual scope L f cdv [])) (envY qual scope L f cdv [] :: outer) h1 hv →
      wpC (model pw c.w) (A.deeper (envY qual scope L f cdv [])) (execs body (envY qual scope L f cdv [])) (fun fl s' => Q (match fl with | .ret v => v | _ => .none) s')
        (fun e s' => wpAny (model pw c.w) (A.deeper (envY qual scope L f cdv [])) (leaving (envY qual scope L f cdv []) e) (fun _ s'' => E e s'') (fun e' s'' => E e' s'') s') (Mk s h1 t1))
    (hco : scope.isCoroutine = false := by rfl) (hgen : scope.isGenerator = false := by rfl) (hk : scope.kind = .function := by rfl) :
    wpC (model pw c.w) A (call (.ref f) args) Q E (Mk s h t) := by
  refine wpC_call (codeC_call_def (fd := fnOf nm qual params body scope dV kV doc pm an cdv ct) (body := body) (binds := binds) (s := Mk s h t) ?_ (g.X _ _ ho) rfl g.T.nolimit (codeRec_of g.X hcd) rfl (BindsTo.of_eq hbind) hcell (locs hloc) (fun h1 hns hk1 => ?_) hco hgen hk)
  · have := C.dp; (first | lia | omega)
  · have g1 : G c h1 := g.ext (D := []) (Fs := []) ((Ext.refl c [] [] h).keep hk1)
    have S : St c outer (pre.map (·.1)) h h.objs.size (fun x => binds.reverse.lookup x) pre h1 := by
      refine ⟨g1, (Ext.refl c _ _ h).keep hk1, g.n1, hns, new_size h, P.nd, fun q => ?_, fun b hb => ⟨C.ok.lv b hb, P.nF b hb⟩, fun p hp => ?_, fun p hp => .inl (List.mem_map_of_mem hp), P.hi, C.ok.of fun b o _ e => ⟨o, hk1 b o e, rfl⟩⟩
      · obtain ⟨p, hp, e⟩ := List.mem_map.mp q
        exact absurd (P.at_ p hp).lt (by rw [e]; exact Nat.lt_irrefl _)
      · obtain ⟨o, e, q⟩ := P.at_ p hp
        exact ⟨o, hk1 _ _ e, q⟩
    have C1 : Cx c n (A.deeper (envY qual scope h.objs.size f cdv [])) (envY qual scope h.objs.size f cdv [] :: outer) h1 hv := by
      refine ⟨C.hd, ?_, ?_, ?_, ?_, ?_, S.fo⟩
      · show A.depth + 1 + 4 * n < recursionLimit
        have := C.dp; (first | lia | omega)
      · show A.units + 3 + 40 * n < cLine
        have := C.un; (first | lia | omega)
      · show A.frames.map _ = _
        rw [C.fr]; rfl
      · show scope.kind ≠ .module
        rw [hk]; exact fun e => by cases e
      · obtain ⟨o, es, ep, e, d, _⟩ := hns
        exact ⟨h.objs.size, o, es, ep, rfl, g.new (new_size h), e, d⟩
    exact H h.objs.size h1 (t + binds.length) S C1
end
end Mine

-- P3
set_option maxRecDepth 100000
set_option Elab.async false
set_option linter.unusedVariables false
namespace Mine
open PySem PySem.W PySem.Calls PyProof.Rows
open Sem (wp)

theorem ba_mro : mroOf (.type "bytearray") = pure [.type "bytearray", .type "object"] := by rw [mroOf_type]; kernel_rfl
theorem ba_lookup_new : typeLookup (.type "bytearray") "__new__" = pure (some (.builtin "bytearray.__new__")) := by rw [typeLookup_type, builtinLookup_eq_fast]; kernel_rfl
theorem ba_made : Bind.madeBy (.type "bytearray") = pure (some "bytearray.__new__") := madeBy_type ba_mro ba_lookup_new (by decide +kernel)
theorem ba_slot_init : Slot "bytearray" "__init__" "bytearray.__init__" :=
  .of (owner := "bytearray") (n := "__init__") (by rw [typeLookup_type, builtinLookup_eq_fast]; kernel_rfl) (by decide +kernel) (by decide +kernel) (by decide +kernel)
    (by first | exact .inl (by decide +kernel) | exact .inr (by decide +kernel)) (by rw [isSubtype_type]; kernel_rfl)
theorem ba_entry_init : entryFor table "bytearray.__init__" = some Builtin.«bytearray.__init__» := by first | exact entryFor_of_fast (by kernel_rfl) | exact entryFor_of_tree (by kernel_rfl)
theorem ba_typeCall (a : Value) : checkTypeCall "bytearray" ⟨[a], []⟩ = pure () := by kernel_rfl
theorem ba_newCall (a : Value) : checkBuiltinCall "bytearray.__new__" ⟨[.type "bytearray", a], []⟩ = pure () := by kernel_rfl
theorem ba_initArgs (a b : Value) : argsOk "bytearray.__init__" ⟨[a, b], []⟩ := by unfold argsOk; kernel_rfl

theorem ba_entry_new : entryFor table "bytearray.__new__" = some Builtin.«list.__new__» := by
  first | exact entryFor_alias (id' := "list.__new__") (by rw [fastTable_eq_tree]; kernel_rfl) (by first | rfl | decide +kernel) (by decide +kernel) (by decide +kernel) | exact entryFor_alias (id' := "list.__new__") (by kernel_rfl) (by first | rfl | decide +kernel) (by decide +kernel) (by kernel_rfl)
theorem ba_plain_new : plainId "bytearray.__new__" = true := by decide +kernel
theorem ba_sub : isSubtype (.type "bytearray") (.type "bytearray") = pure true := by rw [isSubtype_type]; kernel_rfl

set_option maxRecDepth 1000000 in
set_option maxHeartbeats 4000000 in
theorem owner_ba_new : ("bytearray.__new__".splitOn ".__new__").headD "" = "bytearray" := by simp +decide [String.splitOn, String.splitOnAux]

section
variable {prog : Program} {w : World} {A : Around} {E : Value → Shared → Prop} {s : Shared} {M : Model}
theorem pC_false {α : Type} {c : Bool} {a b : Sem α} {Q : α → Shared → Prop} (hc : c = false) (h : wpC M A b Q E s) : wpC M A (if c = true then a else b) Q E s := by subst hc; exact h
theorem pC_true {α : Type} {c : Bool} {a b : Sem α} {Q : α → Shared → Prop} (hc : c = true) (h : wpC M A a Q E s) : wpC M A (if c = true then a else b) Q E s := by subst hc; exact h

theorem code_ba_new (a : Value) {Q₁ : Value → Shared → Prop}
    (h : Q₁ (.ref s.heap.objs.size) { s with heap := s.heap.push { cls := .type "bytearray", data := .bytearray #[] } }) :
    codeAny (model prog w) A (.call (.builtin "bytearray.__new__") ⟨[.type "bytearray", a], []⟩) (wants Q₁ E) s := by
  refine codeAny_of_tree ?_
  show wpAny _ A.in1 (do checkBuiltinCall "bytearray.__new__" ⟨[.type "bytearray", a], []⟩; again (.builtin "bytearray.__new__" ⟨[.type "bytearray", a], []⟩)) _ _ s
  refine wpAny_bind (wpAny_of_eq (ba_newCall a) (wpAny_pure ⟨plainId_quiet ba_plain_new _, codeAny_builtin_stack ba_entry_new rfl fun p st => ?_⟩))
  rw [Around.under_plainId ba_plain_new _]
  have hsub := ba_sub
  have hown := owner_ba_new
  obtain ⟨hp, g, d, tk, os⟩ := s
  simp only [hown]
  wp_walk
  exact h
theorem codeC_builtin {R : Result → Shared → Prop} {id : String} {args : Args} {b : Builtin} (ok : okId id = true) (hb : entryFor table id = some b)
    (h : wpC (model prog w) (A.under (.builtin id args)) (b args)
      (fun fin s' => match fin with | .done f => R (.ok f) s' | .again c' => c'.quiet = true ∧ codeC (model prog w) A c' R s') (fun e s' => R (.error e) s') s) :
    codeC (model prog w) A (.builtin id args) R s := by
  refine codeC_of_tree ok ?_
  show wpC _ _ (match entryFor table id with | some b => b args | none => unsupported ((withoutEnding? id "#data").getD id)) _ _ s
  rw [hb]; exact h
theorem codeC_call_builtin {R : Result → Shared → Prop} {id : String} {args : Args} {b : Builtin} (hq : plainId id = true) (ok : okId id = true) (hb : entryFor table id = some b)
    (h : wpAny (model prog w) A.in1 (checkBuiltinCall id args) (fun _ s₁ => wpC (model prog w) A.in1 (b args)
      (fun fin s' => match fin with | .done f => R (.ok f) s' | .again c' => c'.quiet = true ∧ codeC (model prog w) A c' R s') (fun e s' => R (.error e) s') s₁)
      (fun e s' => R (.error e) s') s) : codeC (model prog w) A (.call (.builtin id) args) R s := by
  refine codeC_of_tree rfl ?_
  show wpC _ A.in1 (do checkBuiltinCall id args; again (.builtin id args)) _ _ s
  refine wpC_step (wpAny_mono h (fun _ s' z => wpC_pure ⟨plainId_quiet hq _, codeC_builtin ok hb ?_⟩) fun _ _ z => z)
  rw [Around.under_plainId hq _]
  exact z

theorem ba_new_call {a : Value} {Q : Value → Shared → Prop}
    (h : Q (.ref s.heap.objs.size) { s with heap := s.heap.push { cls := .type "bytearray", data := .bytearray #[] } }) :
    wpAny (model prog w) A (call (.builtin "bytearray.__new__") [.type "bytearray", a]) Q E s := by
  refine wpAny_call (codeAny_mono (code_ba_new (Q₁ := Q) (E := E) a h) fun r s' z => ?_)
  unfold wants at z
  exact z
end
end Mine

-- P4
set_option maxRecDepth 100000
set_option Elab.async false
set_option linter.unusedVariables false
namespace Mine
open PySem PySem.W PySem.Calls PyProof.Rows
open Sem (wp)
section
variable {prog : Program} {w : World} {A : Around} {E : Value → Shared → Prop} {s : Shared} {M : Model}
theorem ba_look_release : typeLookup (.type "bytearray") "__release_buffer__" = pure (some (.builtin "bytearray.__release_buffer__")) := by rw [typeLookup_type, builtinLookup_eq_fast]; kernel_rfl
theorem int_look_index : typeLookup (.type "int") "__index__" = pure (some (.builtin "int.__index__")) := by rw [typeLookup_type, builtinLookup_eq_fast]; kernel_rfl
theorem ba_bind (v : Value) : Builtin.Bytes.bindOptional "bytearray.__init__" "bytearray" ["source", "encoding", "errors"] [v] [] = pure [some v, none, none] := by kernel_rfl
theorem own_release_ba {S : Addr} {Q : Bool → Shared → Prop} (hT : s.TypeIs (.ref S) "bytearray") (h : Q false s) : wpAny M A (Builtin.Bytes.ownRelease (.ref S)) Q E s := by
  have key : ∀ x : String, x = "bytearray" → wpAny M A (isInstance (.ref S) (.type x)) (fun b s' => Q (!b) s') E s := fun x hx => by rw [hx]; exact wpAny_isInstance hT ba_sub h
  unfold Builtin.Bytes.ownRelease Builtin.Bytes.slotIsOwn
  refine wpAny_bind (wpAny_bind (wpAny_specialOf hT ba_look_release ?_))
  dsimp only
  split
  · rename_i hx
    exact absurd hx (by decide +kernel)
  · exact wpAny_mono (key _ (by decide +kernel)) (fun b s' z => wpAny_pure z) fun _ _ z => z
theorem ba_write {S : Addr} {bs : Array UInt8} {f : Array UInt8 → Array UInt8} {Q : Unit → Shared → Prop} {h : Heap} {t : Nat} (hs : h.get? S = some { cls := .type "bytearray", data := .bytearray bs }) (hz : (f bs).size ≤ 16777216)
    (H : ∀ h', (∀ b o, b ≠ S → h.get? b = some o → h'.get? b = some o) → h'.get? S = some { cls := .type "bytearray", data := .bytearray (f bs) } → Q () (Mk s h' t)) :
    wpAny M A (Builtin.Bytes.write (.ref S) f) Q E (Mk s h t) := by
  show wpAny _ _ (updateBytearray S f) _ _ _
  unfold updateBytearray
  have h2 : (h.update S (Obj.mapBytearray f)).get? S = some { cls := .type "bytearray", data := .bytearray (f bs) } := Heap.get?_update_self (Obj.mapBytearray f) hs rfl
  refine wpAny_bind (wpAny_load hs ?_)
  show wpAny _ _ (update S (Obj.mapBytearray f) >>= fun _ => lookBehind S) _ _ _
  refine wpAny_bind (wpAny_update hs (wpAny_lookBehind h2 ?_ (H _ (fun b o nb e => (Heap.get?_update_other _ _ (Ne.symm nb)).trans e) h2)))
  show (if (f bs).size > sizeLine then some "bytearray:memory" else none) = none
  rw [if_neg (by rw [sizeLine_eq]; (first | lia | omega))]

set_option maxHeartbeats 4000000 in
theorem ba_call {k : Int} {u : Tok} {Q : Value → Shared → Prop} {h : Heap} {t : Nat} (k0 : 0 ≤ k) (k1 : k ≤ 1000)
    (H : ∀ h' t', (∀ b o, h.get? b = some o → h'.get? b = some o) → h'.get? h.objs.size = some { cls := .type "bytearray", data := .bytearray (Array.replicate k.toNat 0) } → Q (.ref h.objs.size) (Mk s h' t')) :
    wpC (model prog w) A (call (.type "bytearray") [.int k u]) Q E (Mk s h t) := by
  refine wpC_call (codeC_of_tree rfl ?_)
  show wpC _ _ (callAny (.type "bytearray") _) _ _ _
  refine wpC_pure ⟨Code.quiet_builtin _ (by decide +kernel), codeC_builtin (by decide +kernel) F.entry_type_call ?_⟩
  rw [Around.under_plain (weight_type_call_type "bytearray" _ []) rfl]
  unfold Builtin.«type.__call__»
  dsimp only
  refine pC_false (by decide) ?_
  refine pC_false (by decide +kernel) ?_
  refine wpC_step (wpAny_of_eq (ba_typeCall _) ?_)
  refine wpC_step (wpAny_of_eq ba_mro ?_)
  refine pC_false rfl ?_
  refine wpC_step (wpAny_of_eq ba_made ?_)
  dsimp only
  refine wpC_step (wpAny_pure ?_)
  refine wpC_step (wpAny_holding (ba_new_call (s := Mk s h t) ?_))
  show wpC _ _ _ _ _ (Mk s (h.push { cls := .type "bytearray", data := .bytearray #[] }) t)
  have h1 : (h.push { cls := .type "bytearray", data := .bytearray #[] }).get? h.objs.size = some { cls := .type "bytearray", data := .bytearray #[] } := Heap.get?_push_size _ rfl
  have hT : (Mk s (h.push { cls := .type "bytearray", data := .bytearray #[] }) t).TypeIs (.ref h.objs.size) "bytearray" := ⟨_, h1, rfl⟩
  refine wpC_step (wpAny_isInstance hT ba_sub ?_)
  refine pC_false rfl ?_
  refine wpC_bind (wpC_holding ?_)
  simp only [callSpecial?]
  refine wpC_step (wpAny_specialOf hT ba_slot_init.lookup ?_)
  simp only [ba_slot_init.bind]
  refine wpC_holding (wpC_step (wpAny_pure (wpC_bind (wpC_call (codeC_call_builtin ba_slot_init.plain (by decide +kernel) ba_entry_init (ba_slot_init.check _ _ _ _ _ _ _ _ hT (ba_initArgs _ _) ?_))))))
  unfold Builtin.«bytearray.__init__»
  dsimp only [List.append_eq, List.cons_append, List.nil_append]
  refine wpC_step (own_release_ba hT ?_)
  refine pC_false rfl ?_
  refine wpC_step (wpAny_of_eq (ba_bind _) ?_)
  dsimp only
  refine wpC_step (wpAny_of_eq (a := ()) rfl ?_)
  refine wpC_step (wpAny_of_eq (a := ()) rfl ?_)
  refine wpC_bind ?_
  unfold orM
  refine wpC_bind (exported_false ?_)
  show wpC _ _ (Builtin.Bytes.exportsOf (.ref h.objs.size) >>= _) _ _ _
  refine wpC_step ?_
  unfold Builtin.Bytes.exportsOf
  refine wpAny_bind (wpAny_load h1 (wpAny_pure (wpC_pure ?_)))
  refine pC_false rfl ?_
  refine wpC_step (ba_write h1 (Nat.zero_le _) fun h2 k2 hs2 => ?_)
  refine wpC_step (wpAny_of_eq (a := none) rfl ?_)
  refine pC_false rfl ?_
  refine wpC_step (wpAny_of_eq (a := ()) rfl ?_)
  refine wpC_step (wpAny_specialOf (typeIs_int _ k u) int_look_index ?_)
  refine pC_true rfl ?_
  refine wpC_step (wpAny_attempt (wpAny_of_eq (a := k) rfl ?_))
  dsimp only
  refine pC_false (by simp only [Builtin.Bytes.fitsIndex, Bool.not_eq_false', Bool.and_eq_true, decide_eq_true_eq]; (first | lia | omega)) ?_
  rw [if_neg (by (first | lia | omega))]
  refine pC_false (by rw [beq_eq_false_iff_ne]; (first | lia | omega)) ?_
  refine pC_false (by unfold Builtin.Bytes.tooLong; rw [sizeLine_eq, decide_eq_false_iff_not]; (first | lia | omega)) ?_
  refine wpC_step (wpAny_rule ?_)
  have fin : ∀ h', (∀ b o, h.get? b = some o → h'.get? b = some o) → h'.get? h.objs.size = some { cls := .type "bytearray", data := .bytearray (Array.replicate k.toNat 0) } → Q (.ref h.objs.size) (Mk s h' t) := fun h' => H h' t
  have k2' : ∀ b o, h.get? b = some o → h2.get? b = some o := fun b o e => k2 b o (Nat.ne_of_lt (Heap.lt_size e)) (Heap.get?_push_of_some _ e)
  by_cases q : 0 < k
  · rw [if_pos q]
    refine wpC_step (ba_write hs2 (by rw [Array.size_replicate]; (first | lia | omega)) fun h3 k3 hs3 => ?_)
    refine wpC_pure ?_
    refine wpC_pure ?_
    dsimp only
    refine pC_false (by decide) ?_
    exact wpC_pure (fin h3 (fun b o e => k3 b o (Nat.ne_of_lt (Heap.lt_size e)) (k2' b o e)) hs3)
  · rw [if_neg q]
    refine wpC_pure ?_
    refine wpC_pure ?_
    dsimp only
    refine pC_false (by decide) ?_
    obtain rfl : k = 0 := by (first | lia | omega)
    exact wpC_pure (fin h2 k2' hs2)
end

section
variable {c : Ct} {n : Nat} {outer : List Env} {D Fs : List Addr} {h0 h h' : Heap} {L a : Addr} {m m' : Str → Option Value} {led led' post news rest : Led} {A : Around} {E E' : Value → Shared → Prop} {s : Shared} {t : Nat} {p : Program} {w : World}
theorem p_bytearray {k : Int} {u : Tok} {Q : Value → Shared → Prop} (S : St c outer D h0 L m led h) (k0 : 0 ≤ k) (k1 : k ≤ 1000)
    (H : ∀ b h' t', h0.get? b = none → St c outer D h0 L m ((b, Ba (Array.replicate k.toNat 0)) :: led) h' → Q (.ref b) (Mk s h' t')) :
    wpC (model p w) A (call (.type "bytearray") [.int k u]) Q E (Mk s h t) :=
  ba_call k0 k1 fun h' t' kp e => H _ h' t' (S.old (new_size h)) (S.more (news := [(h.objs.size, Ba (Array.replicate k.toNat 0))]) kp (fun q hq => by
    rw [List.mem_singleton.mp hq]; exact ⟨⟨_, e, rfl, rfl⟩, new_size h⟩) (by simp))
end
end Mine

-- L12
set_option maxRecDepth 100000
set_option Elab.async false
set_option linter.unusedVariables false
namespace Mine
open PySem PySem.W PySem.Calls PyProof.Rows

theorem lk_ne {m : Str → Option Value} {x y : Str} {v w : Option Value} (e : m x = v) (ne : x ≠ y) : (fun z => if z = y then w else m z) x = v := by
  show (if x = y then w else m x) = v
  rw [if_neg ne]; exact e
theorem it_ne {x y : Str} {v w z : Option Value} (e : z = v) (ne : x ≠ y) : (if x = y then w else z) = v := by rw [if_neg ne]; exact e
theorem it_eq {x : Str} {w z : Option Value} : (if x = x then w else z) = w := if_pos rfl
theorem lk_eq {m : Str → Option Value} {x : Str} {w : Option Value} : (fun z => if z = x then w else m z) x = w := if_pos rfl
noncomputable def SlK (l u : Value) : Kd := fun o => o.cls = .type "slice" ∧ o.data = .fields #[l, u, .none]
section
variable {M : Model} {c : Ct} {n : Nat} {outer : List Env} {D Fs : List Addr} {h0 h h' : Heap} {L a : Addr} {m m' : Str → Option Value} {led led' post news rest : Led} {A : Around} {E E' : Value → Shared → Prop} {s : Shared} {t : Nat} {name : Str} {scope : Scope} {cd : Value} {cY : List (Str × Addr)} {hv : Option Value} {env : Env} {p : Program} {w : World}
variable {b b' : Array UInt8} {ks ls : List Int} {u v : Tok} {value slice : Expr} {i : Int} {Q : Value → Shared → Prop}

theorem t_last {pos : Pos} {a : Value} {op : CmpOp} {r : Sem Value} {Q : Bool → Shared → Prop} (h : wpAny M A r (fun b s₁ => wpAny M A (compareOp op a b) (fun c s₂ => wpAny M A (truthy c) Q E s₂) E s₁) E s) :
    wpAny M A (testChain pos a [op] (r :: evalEach [] env)) Q E s := test_last h
theorem k_len (hk : KBw.bInts b = ks) (hf : ks.length ≤ 16777216) (H : ∀ u t', Q (.int (ks.length : Nat) u) (Mk s h t')) : wpAny (model p w) A (call (.builtin "len") [.bytes b v]) Q E (Mk s h t) :=
  KBw.len_K hk (Nat.le_trans hf (by decide)) (H _ _)
theorem k_item (hk : KBw.bInts b = ks) (hf : ks.length ≤ 16777216) (h0 : 0 ≤ i) (h1 : i < (ks.length : Int)) (H : ∀ u t', 0 ≤ ks.getD i.toNat 0 → ks.getD i.toNat 0 < 256 → Q (.int (ks.getD i.toNat 0) u) (Mk s h t'))
    (hs : subscripted slice false (.bytes b u) (.int i v) = operate [.bytes b u, .int i v] (getItem (.bytes b u) (.int i v)) := by with_unfolding_all rfl)
    (ht : ∀ r, letTemporaryGo value (.bytes b u) r = pure () := by intro _; with_unfolding_all rfl) : wpAny (model p w) A (subscriptTail value slice (.bytes b u) (.int i v)) Q E (Mk s h t) :=
  KBw.item_K hk (Nat.le_trans hf (by decide)) h0 h1 (fun t' k z1 z2 => H t' k z1 z2) hs ht
theorem k_add (hb : KBw.bInts b = ks) (hc : KBw.bInts b' = ls) (hz : ks.length + ls.length ≤ 16777216) (H : ∀ u t', KBw.bInts (b ++ b') = ks ++ ls → Q (.bytes (b ++ b') u) (Mk s h t')) :
    wpAny (model p w) A (binaryOp .Add (.bytes b u) (.bytes b' v)) Q E (Mk s h t) := KBa.add_K hb hc hz fun t' k z => H t' k z
theorem k_truthy {R : Bool → Shared → Prop} (hk : KBw.bInts b = ks) (hf : ks.length ≤ 16777216) (H : ∀ t', R (decide (0 < ks.length)) (Mk s h t')) : wpAny (model p w) A (truthy (.bytes b u)) R E (Mk s h t) :=
  KBw.truthy_K hk (Nat.le_trans hf (by decide)) (H _)

/-- a slice [l:u] is written out -/
theorem x_slice {lower upper : Expr} {pos : Pos} (H : wpAny M A (eval lower env) (fun lv s₁ => wpAny M A (eval upper env) (fun uv s₂ => Q (.ref s₂.heap.objs.size) { s₂ with heap := s₂.heap.push { cls := .type "slice", data := .fields #[lv, uv, .none] } }) E s₁) E s) :
    wpAny M A (eval (.Slice (some lower) (some upper) none pos) env) Q E s := by
  refine wpAny_Slice ?_
  exact wpAny_mono H (fun lv s₁ z => wpAny_mono z (fun uv s₂ z => wpAny_pure z) fun _ _ z => z) fun _ _ z => z
theorem k_slice {lv uv : Value} {lo hi : Option Int} (S : St c outer D h0 L m led h) (hk : KBw.bInts b = ks) (hl : IsPart lv lo) (hu : IsPart uv hi) (hz : ks.length ≤ 16777216)
    (H : ∀ h' u t', St c outer D h0 L m led h' → KBw.bInts (KBy.picked b lo hi) = (ks.drop (lo.elim 0 (clipAt ks.length))).take (hi.elim ks.length (clipAt ks.length) - lo.elim 0 (clipAt ks.length)) → Q (.bytes (KBy.picked b lo hi) u) (Mk s h' t'))
    (hs : subscripted slice false (.bytes b u) (.ref h.objs.size) = operate [.ref h.objs.size, .bytes b u] (getItem (.bytes b u) (.ref h.objs.size)) := by with_unfolding_all rfl)
    (ht : ∀ r, letTemporaryGo value (.bytes b u) r = pure () := by intro _; with_unfolding_all rfl) :
    wpAny (model p w) A (subscriptTail value slice (.bytes b u) (.ref h.objs.size)) Q E (Mk s (h.push { cls := .type "slice", data := .fields #[lv, uv, .none] }) t) :=
  tail_of_ItemOn ⟨"bytes", _, FB.slot_bytes_getitem.lookup, typeIs_bytes _ _ _, getItem_meets (typeIs_bytes _ _ _) (by decide) FB.slot_bytes_getitem FB.entry_bytes_getitem (FB.args_bytes_getitem_2 _ _) (KBc.meets_slice2 b u _ hl hu)
    ⟨Heap.IsSliceOf.new _ _ _ _, Nat.le_trans (KBc.size_picked_le b lo hi) (by rw [← KBw.ints_length b, hk, sizeLine_eq]; exact hz), fun t' k => H _ _ _ (S.keep fun b o e => Heap.get?_push_of_some _ e) (KBc.ints_picked hk lo hi)⟩⟩ hs ht

/-- bytes of a list of ints -/
theorem k_make {vs : List Value} {ns : List Int} (S : St c outer D h0 L m led h) (ha : At h a (Lst vs)) (hh : A.handled = none) (hi : IntsAre vs ns) (hr : ∀ k ∈ ns, 0 ≤ k ∧ k < 256) (hn : ns.length ≤ 1000000)
    (H : ∀ h' b u t', St c outer D h0 L m led h' → (∀ b o, h.get? b = some o → h'.get? b = some o) → KBw.bInts b = ns → Q (.bytes b u) (Mk s h' t')) : wpAny (model p w) A (call (.type "bytes") [.ref a]) Q E (Mk s h t) :=
  call_bytes_ints (s := Mk s h t) ha.list hi hr (by rw [hi.length, sizeLine_eq]; (first | lia | omega)) hh fun h' t' k hk => H h' _ t' k (S.keep hk) hk (KBa.ints_make hr)

/-- new objects by displays -/
theorem mk_tup {vs : List Value} (S : St c outer D h0 L m led h) (hz : vs.length ≤ 100) (H : ∀ a h', h0.get? a = none → St c outer D h0 L m ((a, Tup vs) :: led) h' → (∀ b o, h.get? b = some o → h'.get? b = some o) → Q (.ref a) (Mk s h' t)) :
    vs.length ≤ sizeLine ∧ Q (.ref (Mk s h t).heap.objs.size) { Mk s h t with heap := (Mk s h t).heap.push { cls := .type "tuple", data := .seq vs.toArray } } :=
  ⟨by rw [sizeLine_eq]; (first | lia | omega), H _ _ (S.old (new_size h)) (S.push _ _ ⟨rfl, _, rfl⟩) fun b o e => Heap.get?_push_of_some _ e⟩
theorem mk_list {vs : List Value} (S : St c outer D h0 L m led h) (hz : vs.length ≤ 100) (H : ∀ a h', h0.get? a = none → St c outer D h0 L m ((a, Lst vs) :: led) h' → (∀ b o, h.get? b = some o → h'.get? b = some o) → Q (.ref a) (Mk s h' t)) :
    vs.length ≤ sizeLine ∧ Q (.ref (Mk s h t).heap.objs.size) { Mk s h t with heap := (Mk s h t).heap.push { cls := .type "list", data := .seq vs.toArray } } :=
  ⟨by rw [sizeLine_eq]; (first | lia | omega), H _ _ (S.old (new_size h)) (S.push _ _ ⟨rfl, _, rfl⟩) fun b o e => Heap.get?_push_of_some _ e⟩
theorem i_tup {xs : List Value} {k : Int} {j : Nat} {x : Value} (ha : At h a (Tup xs)) (hlo : -(2 ^ 63) ≤ k) (hhi : k < 2 ^ 63) (hj : seqIndex? k xs.length = some j) (hx : xs[j]? = some x) (H : Q x (Mk s h t))
    (hs : subscripted slice false (.ref a) (.int k u) = operate [.ref a, .int k u] (getItem (.ref a) (.int k u)) := by with_unfolding_all rfl) (hg : ∀ r, letTemporaryGo value (.ref a) r = pure () := by intro _; with_unfolding_all rfl) :
    wpAny (model p w) A (subscriptTail value slice (.ref a) (.int k u)) Q E (Mk s h t) := item_tupleL (s := Mk s h t) ha.tup hlo hhi hj hx H hs hg
theorem x_tup {elts : List Expr} {k : Nat} {pos : Pos} (H : wpAny M A (spliced (backTo pos (starEach elts env))) (fun vs s₁ => vs.length ≤ sizeLine ∧ Q (.ref s₁.heap.objs.size) { s₁ with heap := s₁.heap.push { cls := .type "tuple", data := .seq vs.toArray } }) E s) :
    wpAny M A (eval (.Tuple elts k pos) env) Q E s := wpAny_Tuple H
theorem x_lst {elts : List Expr} {pos : Pos} (H : wpAny M A (spliced (backTo pos (starEach elts env))) (fun vs s₁ => vs.length ≤ sizeLine ∧ Q (.ref s₁.heap.objs.size) { s₁ with heap := s₁.heap.push { cls := .type "list", data := .seq vs.toArray } }) E s) :
    wpAny M A (eval (.List elts pos) env) Q E s := wpAny_List H

/-- range -/
theorem call_rng3 {x y z : Int} {u v w' : Tok} (S : St c outer D h0 L m led h) (hz : z ≠ 0) (hp : Builtin.divisionGoesByPylong (y - x) z = false) (H : ∀ a h' t', h0.get? a = none → St c outer D h0 L m ((a, Rng x y z) :: led) h' → (∀ b o, h.get? b = some o → h'.get? b = some o) → Q (.ref a) (Mk s h' t')) :
    wpAny (model p w) A (call (.type "range") [.int x u, .int y v, .int z w']) Q E (Mk s h t) :=
  call_range_3 (s := Mk s h t) hz (H _ _ _ (S.old (new_size h)) (S.push _ _ ⟨_, _, _, rfl⟩) fun b o e => Heap.get?_push_of_some _ e) (.inl hp)
theorem call_rng1 {y : Int} {u : Tok} (S : St c outer D h0 L m led h) (H : ∀ a h' t', h0.get? a = none → St c outer D h0 L m ((a, Rng 0 y 1) :: led) h' → (∀ b o, h.get? b = some o → h'.get? b = some o) → Q (.ref a) (Mk s h' t')) :
    wpAny (model p w) A (call (.type "range") [.int y u]) Q E (Mk s h t) :=
  call_range_1 (s := Mk s h t) (H _ _ _ (S.old (new_size h)) (S.push _ _ ⟨_, _, _, rfl⟩) fun b o e => Heap.get?_push_of_some _ e)
end
end Mine

-- L13
set_option maxRecDepth 100000
set_option Elab.async false
set_option linter.unusedVariables false
namespace Mine
open PySem PySem.W PySem.Calls PyProof.Rows
section
variable {M : Model} {c : Ct} {n : Nat} {outer : List Env} {D Fs : List Addr} {h0 h h' : Heap} {L a : Addr} {m m' : Str → Option Value} {led led' post news rest : Led} {A : Around} {E E' : Value → Shared → Prop} {s : Shared} {t : Nat} {name : Str} {scope : Scope} {cd : Value} {cY : List (Str × Addr)} {hv : Option Value} {env : Env} {p : Program} {w : World}
variable {Q : Value → Shared → Prop}

theorem c_eqS {x y : Str} {u v : Tok} (H : Q (.bool (x == y)) (Mk s h t)) : wpAny (model p w) A (compareOp .Eq (.str x u) (.str y v)) Q E (Mk s h t) := PyProof.Rows.eq_str H
theorem c_neS {x y : Str} {u v : Tok} (H : Q (.bool (x != y)) (Mk s h t)) : wpAny (model p w) A (compareOp .NotEq (.str x u) (.str y v)) Q E (Mk s h t) := PyProof.Rows.ne_str H
theorem c_isNone {v : Value} (H : Q (.bool (v == .none)) (Mk s h t)) : wpAny M A (compareOp .Is v .none) Q E (Mk s h t) := is_none H
theorem c_isNotNone {v : Value} (H : Q (.bool (!(v == .none))) (Mk s h t)) : wpAny M A (compareOp .IsNot v .none) Q E (Mk s h t) := isNot_none H
theorem c_notInT {xs : List Value} {x : Value} (e : Value → Bool) (ha : At h a (Tup xs)) (he : ∀ y ∈ xs, SeqAt.EqAt A.in1 (Mk s h t) y x (e y)) (H : Q (.bool (!xs.any e)) (Mk s h t)) : wpAny (model p w) A (compareOp .NotIn x (.ref a)) Q E (Mk s h t) :=
  SeqAt.notIn_tupleAt (s := Mk s h t) e ha.tupl (fun y hy => he y (by simpa using hy)) (by simpa using H)
theorem c_inT {xs : List Value} {x : Value} (e : Value → Bool) (ha : At h a (Tup xs)) (he : ∀ y ∈ xs, SeqAt.EqAt A.in1 (Mk s h t) y x (e y)) (H : Q (.bool (xs.any e)) (Mk s h t)) : wpAny (model p w) A (compareOp .In x (.ref a)) Q E (Mk s h t) :=
  SeqAt.in_tupleAt (s := Mk s h t) e ha.tupl (fun y hy => he y (by simpa using hy)) (by simpa using H)

theorem m_tupIndex {pl : Sem Bool} {QM : Value × List Value → Shared → Prop} {o : Obj} (ho : h.get? a = some o) (hc : o.cls = .type "tuple") (hd : o.dict = none) (H : QM (.builtin "tuple.index", [.ref a]) (Mk s h t)) :
    wpAny M A (getMethod (.ref a) (Str.ofString "index") pl) QM E (Mk s h t) :=
  getMethod_builtin (s := Mk s h t) ⟨o, ho, hc⟩ F.plainAttrs_tuple F.slot_tuple_index F.type_tuple_index (fun b e => by cases e; exact ⟨o, ho, hd⟩) H

theorem k_tupIndex4 {x0 x1 x2 x3 k : Int} {t0 t1 t2 t3 u : Tok} (ha : At h a (Tup [.int x0 t0, .int x1 t1, .int x2 t2, .int x3 t3]))
    (H : ∀ i u t', [x0, x1, x2, x3].findIdx? (· == k) = some i → Q (.int i u) (Mk s h t')) (hin : ([x0, x1, x2, x3].findIdx? (· == k)).isSome = true) :
    wpAny (model p w) A (call (.builtin "tuple.index") [.ref a, .int k u]) Q E (Mk s h t) := by
  have hT : (Mk s h t).TypeIs (.ref a) "tuple" := ha.tupl.typeIs
  refine wpAny_call_entry F.slot_tuple_index hT F.entry_tuple_index ?_ (F.args_tuple_index_2 _ _)
  unfold Builtin.«tuple.index»
  refine wpAny_bind (wpAny_of_eq (a := (.ref a, [.int k u])) rfl ?_)
  dsimp only
  refine wpAny_bind (tupleItemsOf_ (s := Mk s h t) ha.tup ?_)
  refine wpAny_bind (wpAny_pure ?_)
  refine wpAny_bind (wpAny_pure ?_)
  simp [List.range'_succ]
  refine wpAny_bind (SeqAt.EqAt.int_int _ _ _ _ _ _ _ _ ?_)
  by_cases q0 : (x0 == k) = true
  · rw [q0]
    simp only [if_true]
    refine wpAny_bind (wpAny_map (wpAny_bind (wpAny_mkInt (wpAny_pure ?_))))
    dsimp only
    refine wpAny_bind (wpAny_pure ?_)
    dsimp only
    with_reducible refine wpAny_pure ?_
    exact ⟨_, rfl, H 0 _ _ (by simp [List.findIdx?_cons, q0])⟩
  rw [Bool.eq_false_iff.mpr q0]
  simp only [Bool.false_eq_true, if_false]
  refine wpAny_bind (wpAny_pure ?_)
  dsimp only
  refine wpAny_bind ?_
  refine wpAny_bind (SeqAt.EqAt.int_int _ _ _ _ _ _ _ _ ?_)
  by_cases q1 : (x1 == k) = true
  · rw [q1]
    simp only [if_true]
    refine wpAny_bind (wpAny_map (wpAny_bind (wpAny_mkInt (wpAny_pure ?_))))
    dsimp only
    refine wpAny_pure ?_
    dsimp only
    with_reducible refine wpAny_pure ?_
    exact ⟨_, rfl, H 1 _ _ (by simp [List.findIdx?_cons, q0, q1])⟩
  rw [Bool.eq_false_iff.mpr q1]
  simp only [Bool.false_eq_true, if_false]
  refine wpAny_bind (wpAny_pure ?_)
  dsimp only
  refine wpAny_bind (SeqAt.EqAt.int_int _ _ _ _ _ _ _ _ ?_)
  by_cases q2 : (x2 == k) = true
  · rw [q2]
    simp only [if_true]
    refine wpAny_bind (wpAny_map (wpAny_bind (wpAny_mkInt (wpAny_pure ?_))))
    dsimp only
    refine wpAny_pure ?_
    dsimp only
    with_reducible refine wpAny_pure ?_
    exact ⟨_, rfl, H 2 _ _ (by simp [List.findIdx?_cons, q0, q1, q2])⟩
  rw [Bool.eq_false_iff.mpr q2]
  simp only [Bool.false_eq_true, if_false]
  refine wpAny_bind (wpAny_pure ?_)
  dsimp only
  refine wpAny_bind (SeqAt.EqAt.int_int _ _ _ _ _ _ _ _ ?_)
  by_cases q3 : (x3 == k) = true
  · rw [q3]
    simp only [if_true]
    refine wpAny_bind (wpAny_map (wpAny_bind (wpAny_mkInt (wpAny_pure ?_))))
    dsimp only
    refine wpAny_pure ?_
    dsimp only
    with_reducible refine wpAny_pure ?_
    exact ⟨_, rfl, H 3 _ _ (by simp [List.findIdx?_cons, q0, q1, q2, q3])⟩
  rw [Bool.eq_false_iff.mpr q3]
  simp only [Bool.false_eq_true, if_false]
  refine wpAny_bind (wpAny_pure ?_)
  dsimp only
  exfalso
  simp [List.findIdx?_cons, q0, q1, q2, q3] at hin
end
end Mine

-- L14
set_option maxRecDepth 100000
set_option Elab.async false
set_option linter.unusedVariables false
namespace Mine
open PySem PySem.W PySem.Calls PyProof.Rows

/-- the object of a Reader, and its dict -/
noncomputable def RdK (d : Addr) : Kd := fun o => o.cls = .ref 149 ∧ o.dict = some d ∧ ∀ cc, o.data ≠ .cls cc
noncomputable def NsR (b : Array UInt8) (k : Int) : Kd := fun o => ∃ mA u v, NsK mA o ∧ mA (Str.ofString "data") = some (.bytes b u) ∧ mA (Str.ofString "at") = some (.int k v) ∧ Within mA [Str.ofString "data", Str.ofString "at"]

section
variable {M : Model} {c : Ct} {n : Nat} {outer : List Env} {D Fs : List Addr} {h0 h h' : Heap} {L a : Addr} {m m' : Str → Option Value} {led led' post news rest : Led} {A : Around} {E E' : Value → Shared → Prop} {s : Shared} {t : Nat} {name : Str} {scope : Scope} {cd : Value} {cY : List (Str × Addr)} {hv : Option Value} {env : Env} {p : Program} {w : World}
variable {Q : Value → Shared → Prop}

theorem cls_reader (g : G c h) : h.get? 149 = some (excClassObj "Reader" "Reader" 149 148 [.type "object"] [.type "object"] true [] [] false none none none none
    (some (.str "Reader" 318)) (some (.str "Reader" 326)) (some (.bool true)) "object.__new__") := g.X 149 _ (by rfl)
theorem ns_reader (g : G c h) : ∃ mN, h.Ns 148 mN ∧ mN (Str.ofString "__init__") = some (.ref 111) ∧ mN (Str.ofString "left") = some (.ref 118) ∧ mN (Str.ofString "take") = some (.ref 125) ∧ mN (Str.ofString "whole") = some (.ref 139) ∧ mN (Str.ofString "varint") = some (.ref 146)
    ∧ mN (Str.ofString "__setattr__") = none ∧ mN (Str.ofString "__getattribute__") = none ∧ mN (Str.ofString "__getattr__") = none ∧ mN (Str.ofString "data") = none ∧ mN (Str.ofString "at") = none := by
  have N := ns_at (N := 148) g (by rfl) (by rfl)
  exact ⟨_, N, ns_some_of g.X N (by rfl), ns_some_of g.X N (by rfl), ns_some_of g.X N (by rfl), ns_some_of g.X N (by rfl), ns_some_of g.X N (by rfl), ns_none_of g.X N (by rfl), ns_none_of g.X N (by rfl), ns_none_of g.X N (by rfl), ns_none_of g.X N (by rfl), ns_none_of g.X N (by rfl)⟩

theorem x_attr {x attr : Str} {np pos : Pos} (H : wpAny M A (eval (.Name x np) env) (fun o s₁ => wpAny M A (getAttr o attr true) Q E s₁) E s) : wpAny M A (eval (.Attribute (.Name x np) attr pos) env) Q E s := Attribute_name H

theorem lk_obj_data : typeLookup (.type "object") (Str.ofString "data") = pure none := by rw [typeLookup_type, builtinLookup_eq_fast]; kernel_rfl
theorem lk_obj_at : typeLookup (.type "object") (Str.ofString "at") = pure none := by rw [typeLookup_type, builtinLookup_eq_fast]; kernel_rfl
theorem lk_obj_left : typeLookup (.type "object") (Str.ofString "left") = pure none := by rw [typeLookup_type, builtinLookup_eq_fast]; kernel_rfl
theorem lk_obj_take : typeLookup (.type "object") (Str.ofString "take") = pure none := by rw [typeLookup_type, builtinLookup_eq_fast]; kernel_rfl
theorem lk_obj_whole : typeLookup (.type "object") (Str.ofString "whole") = pure none := by rw [typeLookup_type, builtinLookup_eq_fast]; kernel_rfl
theorem lk_obj_varint : typeLookup (.type "object") (Str.ofString "varint") = pure none := by rw [typeLookup_type, builtinLookup_eq_fast]; kernel_rfl

theorem rd_inst {x d : Addr} {b : Array UInt8} {k : Int} (hx : At h x (RdK d)) (hd : At h d (NsR b k)) (ne : d ≠ x) : ∃ mA u v, h.Inst x 149 mA ∧ mA (Str.ofString "data") = some (.bytes b u) ∧ mA (Str.ofString "at") = some (.int k v) ∧ Within mA [Str.ofString "data", Str.ofString "at"] ∧ At h d (NsK mA) := by
  obtain ⟨o, e, h1, h2, h3⟩ := hx
  obtain ⟨od, ed, mA, u, v, z1, z2, z3, z4⟩ := hd
  exact ⟨mA, u, v, ⟨o, e, h1, h3, .inr ⟨d, h2, ne, At.ns1 ⟨od, ed, z1⟩⟩⟩, z2, z3, z4, ⟨od, ed, z1⟩⟩
theorem rd_get {x d : Addr} {b : Array UInt8} {k : Int} (g : G c h) (hx : At h x (RdK d)) (hd : At h d (NsR b k)) (ne : d ≠ x) {v : Value} (hn : (name = Str.ofString "data" ∧ ∀ u t', Q (.bytes b u) (Mk s h t')) ∨ (name = Str.ofString "at" ∧ ∀ u t', Q (.int k u) (Mk s h t'))) :
    wpAny (model p w) A (getAttr (.ref x) name true) Q E (Mk s h t) := by
  obtain ⟨mN, hN, _, _, _, _, _, _, n2, n3, n4, n5⟩ := ns_reader g
  obtain ⟨mA, u, v, I, e1, e2, _, _⟩ := rd_inst hx hd ne
  rcases hn with ⟨rfl, H⟩ | ⟨rfl, H⟩
  · exact load_attr (h := h) (cls_reader g) hN n2 n4 lk_obj_data I e1 rfl (H _ _)
  · exact load_attr (h := h) (cls_reader g) hN n2 n5 lk_obj_at I e2 rfl (H _ _)
theorem rd_meth {x d f : Addr} {b : Array UInt8} {k : Int} {pl : Sem Bool} {QM : Value × List Value → Shared → Prop} (g : G c h) (hx : At h x (RdK d)) (hd : At h d (NsR b k)) (ne : d ≠ x)
    (hn : (name = Str.ofString "left" ∧ f = 118) ∨ (name = Str.ofString "take" ∧ f = 125) ∨ (name = Str.ofString "whole" ∧ f = 139) ∨ (name = Str.ofString "varint" ∧ f = 146)) (H : QM (.ref f, [.ref x]) (Mk s h t)) :
    wpAny (model p w) A (getMethod (.ref x) name pl) QM E (Mk s h t) := by
  obtain ⟨mN, hN, m1, m2, m3, m4, m5, _, n2, n3, n4, n5⟩ := ns_reader g
  obtain ⟨mA, u, v, I, _, _, wi, _⟩ := rd_inst hx hd ne
  have sh : ∀ y, y ≠ Str.ofString "data" → y ≠ Str.ofString "at" → mA y = none := fun y y1 y2 => by
    cases q : mA y with
    | none => rfl
    | some z =>
      have := wi y (by rw [q]; exact fun h => nomatch h)
      simp only [List.mem_cons, List.mem_nil_iff, or_false] at this
      rcases this with z | z
      · exact absurd z y1
      · exact absurd z y2
  rcases hn with ⟨rfl, rfl⟩ | ⟨rfl, rfl⟩ | ⟨rfl, rfl⟩ | ⟨rfl, rfl⟩
  · exact method_of (h := h) (cls_reader g) hN n2 n3 m2 (g.X 118 _ (by rfl)) rfl lk_obj_left I (sh _ (by decide) (by decide)) H
  · exact method_of (h := h) (cls_reader g) hN n2 n3 m3 (g.X 125 _ (by rfl)) rfl lk_obj_take I (sh _ (by decide) (by decide)) H
  · exact method_of (h := h) (cls_reader g) hN n2 n3 m4 (g.X 139 _ (by rfl)) rfl lk_obj_whole I (sh _ (by decide) (by decide)) H
  · exact method_of (h := h) (cls_reader g) hN n2 n3 m5 (g.X 146 _ (by rfl)) rfl lk_obj_varint I (sh _ (by decide) (by decide)) H

theorem rd_setAt {x d : Addr} {b : Array UInt8} {k k' : Int} {u : Tok} {QU : Unit → Shared → Prop} (S : St c outer D h0 L m ((d, NsR b k) :: (x, RdK d) :: led) h)
    (H : ∀ h' t', St c outer D h0 L m ((d, NsR b k') :: (x, RdK d) :: led) h' → QU () (Mk s h' t')) : wpAny (model p w) A (setAttr (.ref x) (Str.ofString "at") (.int k' u)) QU E (Mk s h t) := by
  obtain ⟨mN, hN, _, _, _, _, _, n1, _, _, n4, n5⟩ := ns_reader S.g
  obtain ⟨od, ed, mA, u1, v1, z1, z2, z3, z4⟩ := S.head
  have S1 : St c outer D h0 L m ((d, NsK mA) :: (x, RdK d) :: led) h := S.weak rfl (fun q hq => by
    rcases List.mem_cons.mp hq with rfl | hq
    · exact ⟨od, ed, z1⟩
    · exact S.lat q (List.mem_cons_of_mem _ hq))
  refine ob_set F.store_object S1 (fun o z => z) (cls_reader S.g) hN n1 n5 lk_obj_at z4 (by rw [sizeLine_eq]; decide) (fun h' t' S2 => H h' t' (S2.weak rfl fun q hq => ?_))
  rcases List.mem_cons.mp hq with rfl | hq
  · obtain ⟨o2, e2, z⟩ := S2.head
    refine ⟨o2, e2, _, u1, u, z, lk_ne z2 (by decide), lk_eq, fun y hy => ?_⟩
    by_cases q : y = Str.ofString "at"
    · rw [q]; simp
    · exact z4 y (by simpa [q] using hy)
  · exact S2.lat q (List.mem_cons_of_mem _ hq)

/-- a tuple is taken apart -/
theorem x_unp {x : Addr} {xs : List Value} {elts : List Expr} {k : Nat} {pos : Pos} {QU : Unit → Shared → Prop} (S : St c outer D h0 L m led h) (ha : At h x (Tup xs)) (hh : A.handled = none)
    (H : ∀ h', St c outer D h0 L m led h' → (∀ b o, h.get? b = some o → h'.get? b = some o) → wpAny (model p w) A (assignInOrder ((assignEach elts env).map (·.2)) xs) QU E (Mk s h' t))
    (hn : (assignEach elts env).length = xs.length := by with_unfolding_all rfl) (hs : (assignEach elts env).findIdx? (·.1) = none := by with_unfolding_all rfl) : wpAny (model p w) A (assign (.Tuple elts k pos) env (.ref x)) QU E (Mk s h t) := by
  refine assign_Tuple_tuple (s := Mk s h t) hh ha.tup (by simpa using hn) hs fun h' eb => ?_
  have kp : ∀ b o, h.get? b = some o → h'.get? b = some o := fun b o e => eb b o (Nat.ne_of_lt (Heap.lt_size e)) e
  exact H h' (S.keep kp) kp
theorem a_name {x : Str} {ps : Pos} {es : List Expr} {v : Value} {vs : List Value} {QU : Unit → Shared → Prop} (S : St c outer D h0 L m led h)
    (H : ∀ h' t', St c outer D h0 L (fun y => if y = x then some v else m y) led h' → wpAny (model p w) A (assignInOrder ((assignEach es (envY name scope L a cd cY)).map (·.2)) vs) QU E (Mk s h' t'))
    (hk : scope.kind = .function := by with_unfolding_all rfl) (hl : (envY name scope L a cd cY).kindOf x = some .local := by with_unfolding_all rfl)
    (he : (assignEach (.Name x ps :: es) (envY name scope L a cd cY)).map (·.2) = assign (.Name x ps) (envY name scope L a cd cY) :: (assignEach es (envY name scope L a cd cY)).map (·.2) := by with_unfolding_all rfl) :
    wpAny (model p w) A (assignInOrder ((assignEach (.Name x ps :: es) (envY name scope L a cd cY)).map (·.2)) (v :: vs)) QU E (Mk s h t) := by
  rw [he]
  exact assignInOrder_cons (wpAny_assign_Name (x_store S H hk hl))
theorem a_nil {vs : List Value} {QU : Unit → Shared → Prop} (H : QU () s) : wpAny (model p w) A (assignInOrder ((assignEach [] env).map (·.2)) vs) QU E s := assignInOrder_nil H
theorem a_attr {o : Expr} {x : Str} {ps : Pos} {es : List Expr} {v : Value} {vs : List Value} {QU : Unit → Shared → Prop}
    (H : wpAny (model p w) A (eval o env) (fun ov s₂ => wpAny (model p w) A (setAttr ov x v) (fun _ s₃ => wpAny (model p w) A (assignInOrder ((assignEach es env).map (·.2)) vs) QU E s₃) E s₂) E s)
    (he : (assignEach (.Attribute o x ps :: es) env).map (·.2) = assign (.Attribute o x ps) env :: (assignEach es env).map (·.2) := by with_unfolding_all rfl) :
    wpAny (model p w) A (assignInOrder ((assignEach (.Attribute o x ps :: es) env).map (·.2)) (v :: vs)) QU E s := by
  rw [he]
  refine assignInOrder_cons ?_
  rw [assign_Attribute]
  exact wpAny_bind (wpAny_holding (wpAny_mono H (fun ov s' z => wpAny_bind (wpAny_standAt (wpAny_bind (wpAny_holding (wpAny_mono z (fun _ s'' z => wpAny_release' z) fun _ _ z => z))))) fun _ _ z => z))
theorem x_asgT {elts : List Expr} {k : Nat} {tpos pos : Pos} {value : Expr} {rest : List Stmt} {QF : Flow → Shared → Prop}
    (H : wpAny M A (eval value env) (fun v s₁ => wpAny M A (assign (.Tuple elts k tpos) env v) (fun _ s₂ => wpAny M A (execs rest env) QF E s₂) E s₁) E s)
    (hs : swapsWithSole [.Tuple elts k tpos] value pos.line env = pure false := by with_unfolding_all rfl)
    (hw : swappedStores [.Tuple elts k tpos] value env = pure none := by with_unfolding_all rfl) : wpAny M A (execs (.Assign [.Tuple elts k tpos] value pos :: rest) env) QF E s :=
  x_cons (Assign_Tuple H hs hw)
theorem x_augA {o value : Expr} {attr : Str} {tpos pos : Pos} {op : Operator} {rest : List Stmt} {QF : Flow → Shared → Prop}
    (H : wpAny M A (eval o env) (fun ov s₁ => wpAny M A (getAttr ov attr true) (fun old s₂ =>
          wpAny M A (eval value env) (fun v s₃ => wpAny M A (inplaceOp op old v) (fun new s₄ =>
            wpAny M A (setAttr ov attr new) (fun _ s₅ => wpAny M A (execs rest env) QF E s₅) E s₄) E s₃) E s₂) E s₁) E s) : wpAny M A (execs (.AugAssign (.Attribute o attr tpos) op value pos :: rest) env) QF E s :=
  x_cons (wpAny_AugAssign_AttributeAny H)
theorem i_iadd {a b : Int} {u v : Tok} (H : ∀ u t', Q (.int (a + b) u) (Mk s h t')) : wpAny (model p w) A (inplaceOp .Add (.int a u) (.int b v)) Q E (Mk s h t) := iadd_int (H _ _)
theorem St.op (S : St c outer D h0 L m led h) : ∃ m2, m2 = m ∧ St c outer D h0 L m2 led h := ⟨m, rfl, S⟩
theorem enterE {f : Addr} {args : List Value} {binds : List (Str × Value)} {pre : Led} {Q : Value → Shared → Prop} {nm qual : Str} {params : Arguments} {body : List Stmt} {dV kV doc pm cdv ct oc : Value} {an od : Option Addr} {osl : Array (Option Value)} {E : Value → Shared → Prop}
    (C : Cx c (n + 1) A outer h hv) (g : G c h) (P : Pre c (fsOf outer) h pre)
    (ho : (hd.heap_1 c.w.params).lookup f = some ⟨oc, od, .func (fnOf nm qual params body scope dV kV doc pm an cdv ct), osl⟩)
    (hcd : codeIn (hd.heap_1 c.w.params) cdv qual = true)
    (hbind : bindArgs (fnOf nm qual params body scope dV kV doc pm an cdv ct) ⟨args, []⟩ = pure binds)
    (hloc : (binds.all fun x => decide (scope.names.lookup x.1 = some .local)) = true)
    (hcell : ∀ x ∈ scope.names, x.2 ≠ .cell)
    (H : ∀ L h1 t1 m QF EF A', (∀ x, m x = binds.reverse.lookup x) → (∀ v s', Q v s' → QF (.ret v) s') → (∀ s', Q .none s' → QF .next s') → (∀ e s', wpAny (model pw c.w) A' (leaving (envY qual scope L f cdv []) e) (fun _ s'' => E e s'') (fun e' s'' => E e' s'') s' → EF e s') →
      St c outer (pre.map (·.1)) h L m pre h1 → Cx c n A' (envY qual scope L f cdv [] :: outer) h1 hv → wpAny (model pw c.w) A' (execs body (envY qual scope L f cdv [])) QF EF (Mk s h1 t1))
    (hco : scope.isCoroutine = false := by with_unfolding_all rfl) (hgen : scope.isGenerator = false := by with_unfolding_all rfl) (hk : scope.kind = .function := by with_unfolding_all rfl) :
    wpAny (model pw c.w) A (call (.ref f) args) Q E (Mk s h t) :=
  enter C g P ho hcd hbind hloc hcell (fun L h1 t1 S C1 => H L h1 t1 _ _ _ _ (fun _ => rfl) (fun _ _ z => z) (fun _ z => z) (fun _ _ z => z) S C1) hco hgen hk
/-- a loop, its turns' ends opaque, an exception's end told -/
theorem x_loopE {target : Expr} {it : Value} {body : List Stmt} {rest : List Stmt} {QF : Flow → Shared → Prop} {E : Value → Shared → Prop} {h : Heap} (k : Nat) (J : Nat → (Str → Option Value) → Led → Prop)
    (S : St c outer D h0 L m led h) (hJ : J 0 m led)
    (turn : ∀ i m led h t QT ET, i < k → St c outer D h0 L m led h → J i m led → (∀ m led h t, St c outer D h0 L m led h → J (i + 1) m led → QT .next (Mk s h t)) → (∀ v s', QF (.ret v) s' → QT (.ret v) s') → (∀ e s', EL (model p w) A env E e s' → ET e s') →
      wpAny (model p w) A (pyNext it) (fun r s₁ => match r with
      | none => False
      | some v => wpAny (model p w) A (letOwnedTupleGo target it v) (fun _ s₁' => wpAny (model p w) A (assign target env v) (fun _ s₂ => wpAny (model p w) A (execs body env) QT ET s₂) ET s₁') ET s₁) ET (Mk s h t))
    (last : ∀ m led h t EF, St c outer D h0 L m led h → J k m led → wpAny (model p w) A (pyNext it) (fun r s₁ => match r with
      | none => wpAny (model p w) A (execs rest env) QF E s₁
      | some v => False) EF (Mk s h t)) :
    codeAny (model p w) A (.forLoop target it body [] env) (fun r s' => match r with | .ok f => Nx (model p w) A env rest QF E f s' | .error e => cameBackBy (model p w) A env E e s') (Mk s h t) :=
  x_loop k J S hJ (fun i m led h t hi S hJ => turn i m led h t _ _ hi S hJ (fun m led h t S hJ => ⟨m, led, h, t, rfl, S, hJ⟩) (fun _ _ z => z) fun _ _ z => z) fun m led h t S hJ => last m led h t _ S hJ
end
end Mine

-- P5
set_option maxRecDepth 100000
set_option Elab.async false
set_option linter.unusedVariables false
namespace Mine
open PySem PySem.W PySem.Calls PyProof.Rows
open Sem (wp)

theorem ba_slot_set : Slot "bytearray" "__setitem__" "bytearray.__setitem__" :=
  .of (owner := "bytearray") (n := "__setitem__") (by rw [typeLookup_type, builtinLookup_eq_fast]; kernel_rfl) (by decide +kernel) (by decide +kernel) (by decide +kernel)
    (by first | exact .inl (by decide +kernel) | exact .inr (by decide +kernel)) (by rw [isSubtype_type]; kernel_rfl)
theorem ba_entry_set : entryFor table "bytearray.__setitem__" = some Builtin.«bytearray.__setitem__» := by first | exact entryFor_of_fast (by kernel_rfl) | exact entryFor_of_tree (by kernel_rfl)
theorem ba_args_set (a b c : Value) : argsOk "bytearray.__setitem__" ⟨[a, b, c], []⟩ := by unfold argsOk; kernel_rfl
theorem ba_no_bytes : typeLookup (.type "bytearray") "__bytes__" = pure none := by rw [typeLookup_type, builtinLookup_eq_fast]; kernel_rfl
theorem ba_no_index : typeLookup (.type "bytearray") "__index__" = pure none := by rw [typeLookup_type, builtinLookup_eq_fast]; kernel_rfl
theorem ba_look_buffer : typeLookup (.type "bytearray") "__buffer__" = pure (some (.builtin "bytearray.__buffer__")) := by rw [typeLookup_type, builtinLookup_eq_fast]; kernel_rfl

section
variable {prog : Program} {w : World} {A : Around} {E : Value → Shared → Prop} {s : Shared} {M : Model} {h : Heap} {t : Nat}

theorem ba_payload {S : Addr} {bs : Array UInt8} {o : Obj} {Q : Array UInt8 → Shared → Prop} (hs : h.get? S = some o) (hd : o.data = .bytearray bs 0) (H : Q bs (Mk s h t)) : wpAny M A (Builtin.Bytes.payload (.ref S)) Q E (Mk s h t) := by
  unfold Builtin.Bytes.payload Builtin.Bytes.payload?
  refine wpAny_bind (wpAny_bind (wpAny_load hs ?_))
  rw [hd]
  exact wpAny_pure (wpAny_pure H)
theorem ba_write' {S : Addr} {o : Obj} {bs : Array UInt8} {f : Array UInt8 → Array UInt8} {Q : Unit → Shared → Prop} (hs : h.get? S = some o) (hd : o.data = .bytearray bs 0) (hz : (f bs).size ≤ 16777216)
    (H : ∀ h' o', (∀ b o, b ≠ S → h.get? b = some o → h'.get? b = some o) → h'.get? S = some o' → o'.cls = o.cls → o'.data = .bytearray (f bs) 0 → Q () (Mk s h' t)) :
    wpAny M A (Builtin.Bytes.write (.ref S) f) Q E (Mk s h t) := by
  show wpAny _ _ (updateBytearray S f) _ _ _
  unfold updateBytearray
  obtain ⟨oc, od, odt, osl⟩ := o
  cases hd
  have h2 : (h.update S (Obj.mapBytearray f)).get? S = some ⟨oc, od, .bytearray (f bs) 0, osl⟩ := Heap.get?_update_self (Obj.mapBytearray f) hs rfl
  refine wpAny_bind (wpAny_load hs ?_)
  show wpAny _ _ (update S (Obj.mapBytearray f) >>= fun _ => lookBehind S) _ _ _
  refine wpAny_bind (wpAny_update hs (wpAny_lookBehind h2 ?_ (H _ _ (fun b o nb e => (Heap.get?_update_other _ _ (Ne.symm nb)).trans e) h2 rfl rfl)))
  show (if (f bs).size > sizeLine then some "bytearray:memory" else none) = none
  rw [if_neg (by rw [sizeLine_eq]; (first | lia | omega))]

theorem ba_setitem {S : Addr} {o : Obj} {bs : Array UInt8} {i x : Int} {u v : Tok} {Q : Unit → Shared → Prop} (hs : h.get? S = some o) (hc : o.cls = .type "bytearray") (hd : o.data = .bytearray bs 0) (hz : bs.size ≤ 16777216)
    (i0 : 0 ≤ i) (i1 : i < bs.size) (x0 : 0 ≤ x) (x1 : x < 256)
    (H : ∀ h' o', (∀ b o, b ≠ S → h.get? b = some o → h'.get? b = some o) → h'.get? S = some o' → o'.cls = o.cls → o'.data = .bytearray (bs.setIfInBounds i.toNat x.toNat.toUInt8) 0 → Q () (Mk s h' t)) :
    wpAny (model prog w) A (setItem (.ref S) (.int i u) (.int x v)) Q E (Mk s h t) := by
  have hT : (Mk s h t).TypeIs (.ref S) "bytearray" := ⟨o, hs, hc⟩
  unfold setItem
  refine wpAny_holding ?_
  refine wpAny_bind (wpAny_sequenceKey hT (by decide) ?_)
  refine wpAny_bind (wpAny_callSpecial?_slot (name := Str.ofString "__setitem__") hT ba_slot_set
    (wpAny_call_entry ba_slot_set hT ba_entry_set ?_ (ba_args_set _ _ _)))
  unfold Builtin.«bytearray.__setitem__»
  refine bm_if_false rfl ?_
  dsimp only
  refine wpAny_bind ?_
  unfold Builtin.Bytes.subscript?
  refine wpAny_bind (wpAny_specialOf (typeIs_int _ i u) int_look_index ?_)
  refine bm_if_false rfl ?_
  refine wpAny_bind (wpAny_of_eq (a := i) rfl ?_)
  refine bm_if_false (by simp only [Builtin.Bytes.fitsIndex, Bool.not_eq_false', Bool.and_eq_true, decide_eq_true_eq]; (first | lia | omega)) ?_
  refine wpAny_pure ?_
  dsimp only
  refine wpAny_bind ?_
  unfold Builtin.Bytes.byteValue
  refine wpAny_bind (wpAny_of_eq (a := x) rfl ?_)
  refine bm_if_false (by simp only [Bool.or_eq_false_iff, decide_eq_false_iff_not]; (first | lia | omega)) ?_
  refine wpAny_pure ?_
  refine wpAny_bind (ba_payload hs hd ?_)
  have hj : seqIndex? i bs.size = some i.toNat := by
    unfold seqIndex?
    simp only [show ¬ i < 0 from by (first | lia | omega), if_false]
    rw [if_pos (by simp only [Bool.and_eq_true, decide_eq_true_eq]; (first | lia | omega))]
  rw [hj]
  dsimp only
  refine wpAny_bind (ba_write' hs hd (by simpa using hz) fun h' o' k1 k2 k3 k4 => ?_)
  exact wpAny_pure ⟨_, rfl, wpAny_pure (H h' o' k1 k2 k3 k4)⟩

theorem own_buffer_ba {S : Addr} {s : Shared} {Q : Bool → Shared → Prop} (hT : s.TypeIs (.ref S) "bytearray") (h : Q true s) : wpAny M A (Builtin.Bytes.slotIsOwn (.ref S) "__buffer__") Q E s := by
  have key : ∀ x : String, x = "bytearray" → wpAny M A (isInstance (.ref S) (.type x)) Q E s := fun x hx => by rw [hx]; exact wpAny_isInstance hT ba_sub h
  unfold Builtin.Bytes.slotIsOwn
  refine wpAny_bind (wpAny_specialOf hT ba_look_buffer ?_)
  dsimp only
  split
  · rename_i hx
    exact absurd hx (by decide +kernel)
  · exact key _ (by decide +kernel)
theorem ba_bytes_new {S : Addr} {o : Obj} {bs : Array UInt8} {Q : Value → Shared → Prop} (hs : h.get? S = some o) (hc : o.cls = .type "bytearray") (hd : o.data = .bytearray bs 0) (hz : bs.size ≤ 1000)
    (H : ∀ u t', Q (.bytes bs u) (Mk s h t')) :
    codeAny (model prog w) A (.call (.builtin "bytes.__new__") ⟨[.type "bytes", .ref S], []⟩) (wants Q E) (Mk s h t) := by
  have hT : (Mk s h t).TypeIs (.ref S) "bytearray" := ⟨o, hs, hc⟩
  refine codeAny_of_tree ?_
  show wpAny _ A.in1 (do checkBuiltinCall "bytes.__new__" ⟨[.type "bytes", .ref S], []⟩; again (.builtin "bytes.__new__" ⟨[.type "bytes", .ref S], []⟩)) _ _ _
  refine wpAny_bind (wpAny_of_eq (F.bm_newCall _) (wpAny_pure ⟨plainId_quiet F.bm_plain _, codeAny_builtin F.bm_entry ?_⟩))
  rw [Around.under_plainId F.bm_plain _]
  unfold Builtin.«bytes.__new__»
  refine wpAny_bind (wpAny_of_eq (a := true) rfl ?_)
  refine bm_if_false rfl ?_
  refine wpAny_bind (wpAny_of_eq F.bm_sub ?_)
  refine bm_if_false rfl ?_
  refine wpAny_bind (wpAny_of_eq (F.bm_bind _) ?_)
  refine wpAny_bind (wpAny_of_eq (a := ()) rfl ?_)
  refine wpAny_bind (wpAny_of_eq (a := ()) rfl ?_)
  refine bm_if_false rfl ?_
  refine wpAny_bind (wpAny_specialOf hT ba_no_bytes ?_)
  refine wpAny_bind (wpAny_bind ?_)
  show wpAny _ _ (load S >>= _) _ _ _
  refine wpAny_bind (wpAny_load hs ?_)
  rw [hd]
  refine wpAny_pure (wpAny_pure ?_)
  refine bm_if_false rfl ?_
  refine wpAny_bind (wpAny_specialOf hT ba_no_index ?_)
  refine bm_if_true rfl ?_
  first
    | show wpAny _ _ (Builtin.Bytes.buffer? "bytes.__new__" (.ref S) true >>= _) _ _ _
    | (refine wpAny_bind ?_; show wpAny _ _ (Builtin.Bytes.buffer? "bytes.__new__" (.ref S) true >>= _) _ _ _)
  refine wpAny_bind ?_
  unfold Builtin.Bytes.buffer?
  refine wpAny_bind (wpAny_specialOf hT ba_look_buffer ?_)
  try dsimp only
  refine wpAny_bind (own_buffer_ba hT ?_)
  refine bm_if_false rfl ?_
  refine wpAny_bind (wpAny_specialOf hT ba_look_buffer ?_)
  try dsimp only
  refine wpAny_bind (own_release_ba hT ?_)
  refine bm_if_false rfl ?_
  refine wpAny_bind (ba_payload hs hd ?_)
  refine wpAny_pure ?_
  refine wpAny_bind (wpAny_rule ?_)
  refine wpAny_bind (wpAny_mkBytes ?_ (by rw [sizeLine_eq]; (first | lia | omega)))
  show wpAny _ _ (if (Value.type "bytes" == Value.type "bytes") = true then _ else _) _ _ _
  refine bm_if_true (by decide) ?_
  first
    | exact wpAny_pure (H _ _)
    | exact wpAny_bind (wpAny_pure (wpAny_pure (H _ _)))
end

section
variable {c : Ct} {n : Nat} {outer : List Env} {D Fs : List Addr} {h0 h h' : Heap} {L a : Addr} {m m' : Str → Option Value} {led led' post news rest : Led} {A : Around} {E E' : Value → Shared → Prop} {s : Shared} {t : Nat} {p : Program} {w : World}
theorem k_bytesBa {bs : Array UInt8} {Q : Value → Shared → Prop} (ha : At h a (Ba bs)) (hz : bs.size ≤ 1000) (H : ∀ u t', Q (.bytes bs u) (Mk s h t')) : wpAny (model p w) A (call (.type "bytes") [.ref a]) Q E (Mk s h t) := by
  obtain ⟨o, hs, hc, hd⟩ := ha
  refine callType_codes (Q₁ := fun obj s₁ => s₁.TypeIs obj "bytes" ∧ Q obj s₁) F.bm_called (F.bm_typeCall _) F.entry_object_init
    (ba_bytes_new hs hc hd hz fun u t' => ⟨PySem.W.typeIs_bytes _ _ _, H u t'⟩) fun obj s₁ h₁ => ?_
  exact ⟨h₁.1, F.args_object_init_2 obj _, object_init_meets F.bm_called.init.lookup F.bm_called.made (by decide) _ _ _ _ _ ⟨h₁.1, rfl, h₁.2⟩⟩
theorem k_setBa {bs : Array UInt8} {i x : Int} {u v : Tok} {Q : Unit → Shared → Prop} (S : St c outer D h0 L m ((a, Ba bs) :: led) h) (hz : bs.size ≤ 1000) (i0 : 0 ≤ i) (i1 : i < bs.size) (x0 : 0 ≤ x) (x1 : x < 256)
    (H : ∀ h', St c outer D h0 L m ((a, Ba (bs.setIfInBounds i.toNat x.toNat.toUInt8)) :: led) h' → Q () (Mk s h' t)) : wpAny (model p w) A (setItem (.ref a) (.int i u) (.int x v)) Q E (Mk s h t) := by
  obtain ⟨o, hs, hc, hd⟩ := S.head
  exact ba_setitem hs hc hd (by (first | lia | omega)) i0 i1 x0 x1 fun h' o' k1 k2 k3 k4 => H h' (S.upd' k1 ⟨o', k2, k3.trans hc, k4⟩)
end
end Mine

namespace Mine
open PySem PySem.W PySem.Calls PyProof.Rows
section
variable {M : Model} {c : Ct} {n : Nat} {outer : List Env} {D Fs : List Addr} {h0 h h' : Heap} {L a : Addr} {m m' : Str → Option Value} {led led' post news rest : Led} {A : Around} {E E' : Value → Shared → Prop} {s : Shared} {t : Nat} {name : Str} {scope : Scope} {cd : Value} {cY : List (Str × Addr)} {hv : Option Value} {env : Env} {p : Program} {w : World}
variable {Q : Value → Shared → Prop}

-- F1
/-- the octets of a number, the greatest first -/
noncomputable def octs : Nat → Int → List Int
  | 0, _ => []
  | k + 1, n => octs k (n / 256) ++ [n % 256]
theorem octs_front : ∀ (k : Nat) (n : Int), octs (k + 1) n = ((n / 256 ^ k) % 256) :: octs k n
  | 0, n => by simp [octs]
  | k + 1, n => by
    rw [octs, octs_front k (n / 256), octs]
    rw [List.cons_append]
    congr 1
    rw [Int.ediv_ediv_of_nonneg (by decide), Int.pow_succ, Int.mul_comm]
theorem octs_length : ∀ (k : Nat) (n : Int), (octs k n).length = k
  | 0, _ => rfl
  | k + 1, n => by rw [octs, List.length_append, octs_length k]; rfl

theorem ints_set {b : Array UInt8} {ks : List Int} {i : Nat} {x : Int} (hk : KBw.bInts b = ks) (x0 : 0 ≤ x) (x1 : x < 256) : KBw.bInts (b.setIfInBounds i x.toNat.toUInt8) = ks.set i x := by
  subst hk
  unfold KBw.bInts
  rw [Array.toList_setIfInBounds, List.map_set]
  congr 1
  have : x.toNat < 256 := by (first | lia | omega)
  simp [UInt8.toNat_ofNat, Nat.mod_eq_of_lt this]
  (first | lia | omega)

theorem sz_ok {sz : Int} (hs : sz = 1 ∨ sz = 2 ∨ sz = 4 ∨ sz = 8) : (1 ≤ sz ∧ sz ≤ 8) ∧ Builtin.divisionGoesByPylong (-1 - (sz - 1)) (-1) = false ∧ Builtin.Range.small (sz - 1) (-1) (-1) = true ∧ Builtin.Range.rangeSize (sz - 1) (-1) (-1) = sz := by
  rcases hs with rfl | rfl | rfl | rfl <;> decide +kernel
theorem sz_turn {sz : Int} {i : Nat} (hi : i < sz.toNat) : 0 < sz - (i : Int) ∧ 0 ≤ sz - 1 - (i : Int) ∧ sz - 1 - (i : Int) < (sz.toNat : Nat) := by (first | lia | omega)
theorem sz_next {sz : Int} {i : Nat} : sz - 1 - (i : Int) + -1 = sz - 1 - ((i + 1 : Nat) : Int) ∧ sz - (i : Int) - 1 = sz - ((i + 1 : Nat) : Int) := by (first | lia | omega)
theorem sz_back {sz : Int} {i : Nat} (hi : i < sz.toNat) : (sz - 1 - (i : Int)).toNat = sz.toNat - (i + 1) := by (first | lia | omega)
theorem rep_back {n i : Nat} (hi : i < n) : n - i = (n - (i + 1)) + 1 := (Nat.succ_pred_eq_of_pos (Nat.sub_pos_of_lt hi)).symm
theorem mod256 (a : Int) : 0 ≤ a.fmod 256 ∧ a.fmod 256 < 256 := by rw [Int.fmod_eq_emod_of_nonneg _ (by decide)]; exact ⟨Int.emod_nonneg _ (by decide), Int.emod_lt_of_pos _ (by decide)⟩
theorem bs_size {bs : Array UInt8} {n i : Nat} {k : Int} (hb : KBw.bInts bs = List.replicate (n - i) 0 ++ octs i k) (hi : i ≤ n) : bs.size = n := by
  rw [← KBw.ints_length, hb, List.length_append, List.length_replicate, octs_length, Nat.sub_add_cancel hi]
theorem sz_8 {sz : Int} (h : sz ≤ 8) : sz.toNat ≤ 8 := Int.toNat_le.mpr h
set_option maxHeartbeats 4000000 in
theorem spec_put_whole {k sz : Int} {u v : Tok} (hs : sz = 1 ∨ sz = 2 ∨ sz = 4 ∨ sz = 8) (k0 : 0 ≤ k) (k1 : k < 2 ^ (8 * sz).toNat) (C : Cx c (n + 1) A outer h none) (g : G c h)
    (K : ∀ b u h' t', KBw.bInts b = octs sz.toNat k → Ret c (fsOf outer) h [] [] h' → Q (.bytes b u) (Mk s h' t')) :
    wpC (model pw c.w) A (call (.ref 69) [.int k u, .int sz v]) Q E (Mk s h t) := by
  obtain ⟨sz1, sd, ss, er⟩ := sz_ok hs
  refine enterC (binds := [(Str.ofString "n", .int k u), (Str.ofString "size", .int sz v)]) C g pre_nil (by rfl) (by rfl) rfl (by rfl) (by decide) (fun L h2 t2 S C2 => ?_)
  refine p_if ?_
  (with_reducible refine isTrue_or (wpAny_isTrue_Compare1 (x_loc (by assumption) (by ((repeat refine it_ne ?_ (by decide)); first | assumption | exact it_eq | with_unfolding_all rfl)) ?_)); with_reducible refine i_int (fun _ _ => c_lt (wpAny_truthy_bool ?_)))
  rw [if_neg (by simpa using k0)]
  (with_reducible refine isTrue_or (wpAny_isTrue_Compare1 (wpAny_BinOp (x_loc (by assumption) (by ((repeat refine it_ne ?_ (by decide)); first | assumption | exact it_eq | with_unfolding_all rfl)) ?_))); with_reducible refine wpAny_BinOp (i_int (fun _ _ => x_loc (by assumption) (by ((repeat refine it_ne ?_ (by decide)); first | assumption | exact it_eq | with_unfolding_all rfl)) ?_)))
  with_reducible refine i_mul (fun _ _ => ?_) (IntMulOk.of_left (by decide +kernel))
  with_reducible refine i_shr (Int.mul_nonneg (by decide) (Int.le_trans (by decide) sz1.1)) (fun _ _ => ?_)
  with_reducible refine i_int (fun _ _ => c_ne (wpAny_truthy_bool ?_))
  have e0 : k.fdiv (2 ^ (8 * sz).toNat) = 0 := by rw [Int.fdiv_eq_ediv_of_nonneg _ (by exact Int.le_of_lt (Int.pow_pos (by decide)))]; exact Int.ediv_eq_zero_of_lt k0 k1
  rw [e0]
  rw [if_neg (by decide)]
  with_reducible refine isTrue_or_nil ?_
  refine ⟨fun q => (nomatch q), fun _ => ?_⟩
  refine p_nilN ?_
  refine p_asg ?_
  refine p_call ?_
  refine x_blt S (b_bytearray S.g) ?_
  refine p_cwT ?_
  (with_reducible refine x_arg (x_loc (by assumption) (by ((repeat refine it_ne ?_ (by decide)); first | assumption | exact it_eq | with_unfolding_all rfl)) ?_); with_reducible refine x_argN ?_)
  refine p_bytearray S (Int.le_trans (by decide) sz1.1) (Int.le_trans sz1.2 (by decide)) (fun b h3 t3 b0 S => ?_)
  with_reducible refine x_store S (fun h4 t4 S => ?_)
  refine wpC_of ?_
  refine x_for ?_
  with_reducible refine x_call ?_
  with_reducible refine x_blt S (b_range S.g) ?_
  with_reducible refine x_cwT ?_
  (with_reducible refine x_arg (wpAny_BinOp (x_loc (by assumption) (by ((repeat refine it_ne ?_ (by decide)); first | assumption | exact it_eq | with_unfolding_all rfl)) ?_)); with_reducible refine i_int (fun _ _ => i_sub (fun _ _ => x_arg (wpAny_UnaryOp (i_int (fun _ _ => i_neg (fun _ _ => x_arg (wpAny_UnaryOp (i_int (fun _ _ => i_neg (fun _ _ => x_argN ?_)))))))))))
  with_reducible refine call_rng3 S (by decide) sd (fun r h5 t5 r0 S _ => ?_)
  refine iter_range S S.head ss (fun I h6 I0 S _ => ?_)
  rw [er] at S
  refine x_loop sz.toNat (fun i m led => ∃ bs un, led = [(I, ItR (sz - 1 - i) (sz - i) (-1)), (r, Rng (sz - 1) (-1) (-1)), (b, Ba bs)] ∧ KBw.bInts bs = List.replicate (sz.toNat - i) 0 ++ octs i k ∧
    m (Str.ofString "found") = some (.ref b) ∧ m (Str.ofString "n") = some (.int (k / 256 ^ i) un)) S ⟨Array.replicate sz.toNat 0, u, by simp, by simp [KBw.bInts, octs], rfl, by simp; rfl⟩ (fun i m led h t hi S hJ => ?_) (fun m led h t S hJ => ?_)
  · obtain ⟨bs, un, rfl, hb, hf, hn⟩ := hJ
    have hsz := bs_size hb (Nat.le_of_lt hi)
    have st := sz_turn hi
    refine next_range S st.1 (fun h v t S _ => ?_)
    refine x_turn S (fun h t S => ?_)
    refine x_asgSub ?_
    (with_reducible refine wpAny_BinOp (x_loc (by assumption) (by ((repeat refine it_ne ?_ (by decide)); first | assumption | exact it_eq | with_unfolding_all rfl)) ?_); with_reducible refine i_int (fun _ _ => ?_))
    with_reducible refine i_mod (by decide) (fun _ _ => ?_) (PyProof.noPylong_small (by decide))
    (with_reducible refine x_loc (by assumption) (by ((repeat refine it_ne ?_ (by decide)); first | assumption | exact it_eq | with_unfolding_all rfl)) ?_; with_reducible refine x_loc (by assumption) (by ((repeat refine it_ne ?_ (by decide)); first | assumption | exact it_eq | with_unfolding_all rfl)) ?_)
    have q0 := mod256 (k / 256 ^ i)
    have S := S.front 2 rfl
    refine k_setBa S (by rw [hsz]; exact Nat.le_trans (sz_8 sz1.2) (by decide)) st.2.1 (by rw [hsz]; exact st.2.2) q0.1 q0.2 (fun h S => ?_)
    refine x_asg ?_
    (with_reducible refine wpAny_BinOp (x_loc (by assumption) (by ((repeat refine it_ne ?_ (by decide)); first | assumption | exact it_eq | with_unfolding_all rfl)) ?_); with_reducible refine i_int (fun _ _ => ?_))
    with_reducible refine i_div (by decide) (fun _ _ => ?_) (PyProof.noPylong_small (by decide))
    with_reducible refine x_store S (fun h t S => ?_)
    refine x_nil ?_
    have S := (S.front 2 rfl).front 2 rfl
    rw [sz_next.1, sz_next.2] at S
    rw [show (k / 256 ^ i).fdiv 256 = k / 256 ^ (i + 1) from by
        rw [Int.fdiv_eq_ediv_of_nonneg _ (by decide), Int.ediv_ediv_of_nonneg (Int.le_of_lt (Int.pow_pos (by decide))), Int.pow_succ]] at S
    refine ⟨_, _, h, t, rfl, S, _, _, rfl, ?_, by ((repeat refine it_ne ?_ (by decide)); first | assumption | exact it_eq | with_unfolding_all rfl), lk_eq⟩
    · rw [ints_set hb q0.1 q0.2, octs_front, Int.fmod_eq_emod_of_nonneg _ (by decide)]
      rw [sz_back hi, rep_back hi, List.replicate_succ', List.append_assoc, List.set_append_right _ _ (by simp)]
      simp
  · obtain ⟨bs, un, rfl, hb, hf, hn⟩ := hJ
    have hI : h3.get? I = none ∨ True := .inr trivial
    refine end_range S I0 (by rw [Int.toNat_of_nonneg (Int.le_trans (by decide) sz1.1), Int.sub_self]; exact Int.le_refl _) C2.hd (fun h S => ?_)
    have S := S.front 1 rfl
    refine x_ret ?_
    refine x_call ?_
    refine x_blt S (b_bytes S.g) ?_
    refine x_cwT ?_
    (with_reducible refine x_arg (x_loc (by assumption) (by ((repeat refine it_ne ?_ (by decide)); first | assumption | exact it_eq | with_unfolding_all rfl)) ?_); with_reducible refine x_argN ?_)
    have hsz : bs.size ≤ 1000 := by rw [bs_size hb (Nat.le_refl _)]; exact Nat.le_trans (sz_8 sz1.2) (by decide)
    refine k_bytesBa S.head hsz (fun u t => ?_)
    refine K bs u h t (by rw [hb, Nat.sub_self]; rfl) ?_
    exact (S.drop 2).done rfl


-- F2
/-- how many octets a number takes -/
noncomputable def vsz (k : Int) : Int := if k < 64 then 1 else if k < 16384 then 2 else if k < 1073741824 then 4 else 8
noncomputable def vix (k : Int) : Int := if k < 64 then 0 else if k < 16384 then 1 else if k < 1073741824 then 2 else 3
theorem vsz_is (k : Int) : vsz k = 1 ∨ vsz k = 2 ∨ vsz k = 4 ∨ vsz k = 8 := by unfold vsz; split <;> (try split) <;> (try split) <;> simp
theorem VS_at (g : G c h) : At h 62 (Tup [.int 1 264, .int 2 265, .int 4 266, .int 8 267]) := ⟨_, g.X 62 _ (by rfl), rfl, _, rfl⟩

/-- the widths that did not fit -/
noncomputable def NoFit (k : Int) (i : Nat) : Prop := (i = 0 ∨ (i = 1 ∧ 64 ≤ k) ∨ (i = 2 ∧ 16384 ≤ k) ∨ (i = 3 ∧ 1073741824 ≤ k) ∨ (i = 4 ∧ 4611686018427387904 ≤ k))
theorem NoFit.end {k : Int} (k1 : k < 2 ^ 62) (hb : NoFit k 4) : False := by
  rcases hb with h | ⟨h, _⟩ | ⟨h, _⟩ | ⟨h, _⟩ | ⟨_, h⟩
  · cases h
  · cases h
  · cases h
  · cases h
  · exact absurd k1 (Int.not_lt.mpr h)
theorem vs_step {k : Int} (k0 : 0 ≤ k) {i : Nat} (hi : i < 4) (hb : NoFit k i) : ∃ sz tz, [Value.int 1 264, .int 2 265, .int 4 266, .int 8 267][i]? = some (.int sz tz) ∧ (0 ≤ 8 * sz - 2 ∧ 8 * sz - 2 ≤ 1000000) ∧
    ((k < 2 ^ (8 * sz - 2).toNat → vsz k = sz) ∧ (¬ k < 2 ^ (8 * sz - 2).toNat → NoFit k (i + 1))) := by
  rcases hb with rfl | ⟨rfl, h⟩ | ⟨rfl, h⟩ | ⟨rfl, h⟩ | ⟨rfl, h⟩
  · exact ⟨1, 264, rfl, by decide, fun q => by unfold vsz; rw [if_pos (show k < 64 from q)], fun q => .inr (.inl ⟨rfl, Int.not_lt.mp (show ¬ k < 64 from q)⟩)⟩
  · exact ⟨2, 265, rfl, by decide, fun q => by unfold vsz; rw [if_neg (Int.not_lt.mpr h), if_pos (show k < 16384 from q)], fun q => .inr (.inr (.inl ⟨rfl, Int.not_lt.mp (show ¬ k < 16384 from q)⟩))⟩
  · exact ⟨4, 266, rfl, by decide, fun q => by unfold vsz; rw [if_neg (Int.not_lt.mpr (Int.le_trans (by decide) h)), if_neg (Int.not_lt.mpr h), if_pos (show k < 1073741824 from q)], fun q => .inr (.inr (.inr (.inl ⟨rfl, Int.not_lt.mp (show ¬ k < 1073741824 from q)⟩)))⟩
  · exact ⟨8, 267, rfl, by decide, fun q => by unfold vsz; rw [if_neg (Int.not_lt.mpr (Int.le_trans (by decide) h)), if_neg (Int.not_lt.mpr (Int.le_trans (by decide) h)), if_neg (Int.not_lt.mpr h)], fun q => .inr (.inr (.inr (.inr ⟨rfl, Int.not_lt.mp (show ¬ k < 4611686018427387904 from q)⟩)))⟩
  · exact absurd hi (by decide)
set_option maxHeartbeats 4000000 in
theorem spec_varint_size {k : Int} {u : Tok} (k0 : 0 ≤ k) (k1 : k < 2 ^ 62) (C : Cx c (n + 1) A outer h none) (g : G c h)
    (K : ∀ u h' t', Ret c (fsOf outer) h [] [] h' → Q (.int (vsz k) u) (Mk s h' t')) :
    wpAny (model pw c.w) A (call (.ref 83) [.int k u]) Q E (Mk s h t) := by
  refine enter (binds := [(Str.ofString "n", .int k u)]) C g pre_nil (by rfl) (by rfl) rfl (by rfl) (by decide) (fun L h2 t2 S C2 => ?_)
  refine x_for ?_
  with_reducible refine x_glob S (g_VARINT_SIZES S.g) ?_
  refine iter_tup S (VS_at S.g) (fun I h3 I0 S _ => ?_)
  refine x_loop 4 (fun i m led => led = [(I, ItT 62 i)] ∧ m (Str.ofString "n") = some (.int k u) ∧ NoFit k i) S ⟨rfl, by ((repeat refine it_ne ?_ (by decide)); first | assumption | exact it_eq | with_unfolding_all rfl), .inl rfl⟩ (fun i m led h t hi S hJ => ?_) (fun m led h t S hJ => ?_)
  · obtain ⟨rfl, hn, hb⟩ := hJ
    obtain ⟨sz, tz, hx, hz, hv⟩ := vs_step k0 hi hb
    refine next_tup S (VS_at S.g) hx (fun h S _ => ?_)
    refine x_turn S (fun h t S => ?_)
    refine x_if ?_
    (with_reducible refine isTrue_chain (i_int (fun _ _ => test_link (x_loc (by assumption) (by ((repeat refine it_ne ?_ (by decide)); first | assumption | exact it_eq | with_unfolding_all rfl)) ?_))); with_reducible refine c_le (wpAny_truthy_bool ?_))
    rw [if_pos (by simpa using k0)]
    with_reducible refine t_last (wpAny_BinOp (i_int (fun _ _ => wpAny_BinOp (wpAny_BinOp (i_int (fun _ _ => x_loc (by assumption) (by ((repeat refine it_ne ?_ (by decide)); first | assumption | exact it_eq | with_unfolding_all rfl)) ?_))))))
    with_reducible refine i_mul (fun _ _ => ?_) (IntMulOk.of_left (by decide +kernel))
    with_reducible refine i_int (fun _ _ => i_sub (fun _ _ => ?_))
    with_reducible refine i_shl hz.1 hz.2 (by decide) (fun _ _ => ?_)
    with_reducible refine c_lt (wpAny_truthy_bool ?_)
    rw [Int.one_mul]
    refine ⟨fun q => ?_, fun q => ?_⟩
    · refine x_ret ?_
      with_reducible refine x_loc (by assumption) (by ((repeat refine it_ne ?_ (by decide)); first | assumption | exact it_eq | with_unfolding_all rfl)) ?_
      rw [← hv.1 (by simpa using q)]
      exact K _ _ _ ((S.drop 1).done rfl)
    · refine x_nilN (x_nil ?_)
      exact ⟨_, _, _, _, rfl, S, rfl, by ((repeat refine it_ne ?_ (by decide)); first | assumption | exact it_eq | with_unfolding_all rfl), hv.2 (by simpa using q)⟩
  · exact absurd (hJ.2.2.end k1) id


-- F3
/-- the octets of a number, as the project and the law write them -/
theorem nat_and_low (a b m : Nat) (hb : b < 2 ^ m) : (a * 2 ^ m) &&& b = 0 := by
  apply Nat.eq_of_testBit_eq
  intro i
  rw [Nat.testBit_and, Nat.zero_testBit]
  by_cases q : i < m
  · rw [Nat.testBit_mul_two_pow, decide_eq_false (by (first | lia | omega)), Bool.false_and, Bool.false_and]
  · rw [Nat.testBit_lt_two_pow (Nat.lt_of_lt_of_le hb (Nat.pow_le_pow_right (by decide) (by (first | lia | omega)))), Bool.and_false]
theorem bor_low {x y : Int} {m : Nat} (x0 : 0 ≤ x) (y0 : 0 ≤ y) (y1 : y < 2 ^ m) : Builtin.bitOr (x * 2 ^ m) y = x * 2 ^ m + y := by
  have p0 : (0 : Int) ≤ 2 ^ m := Int.le_of_lt (Int.pow_pos (by decide))
  rw [bitOr_and, bitAnd_pp (Int.mul_nonneg x0 p0) y0]
  have e : (x * 2 ^ m).toNat = x.toNat * 2 ^ m := by
    obtain ⟨a, rfl⟩ := Int.eq_ofNat_of_zero_le x0
    simp only [Int.toNat_natCast]
    have : ((a : Int) * 2 ^ m) = ((a * 2 ^ m : Nat) : Int) := by simp
    rw [this, Int.toNat_natCast]
  have l : y.toNat < 2 ^ m := by
    obtain ⟨b, rfl⟩ := Int.eq_ofNat_of_zero_le y0
    have : ((2 : Int) ^ m) = ((2 ^ m : Nat) : Int) := by simp
    rw [this] at y1
    simpa using Int.ofNat_lt.mp y1
  rw [e, nat_and_low _ _ _ l]
  simp
noncomputable def vint (k : Int) : List Int := octs (vsz k).toNat (vix k * 2 ^ (8 * vsz k - 2).toNat + k)

set_option maxHeartbeats 4000000 in
theorem spec_put_varint {k : Int} {u : Tok} (k0 : 0 ≤ k) (k1 : k < 2 ^ 62) (C : Cx c (n + 2) A outer h none) (g : G c h)
    (K : ∀ b u h' t', KBw.bInts b = vint k → Ret c (fsOf outer) h [] [] h' → Q (.bytes b u) (Mk s h' t')) :
    wpC (model pw c.w) A (call (.ref 90) [.int k u, .none]) Q E (Mk s h t) := by
  refine enterC (binds := [(Str.ofString "n", .int k u), (Str.ofString "size", .none)]) C g pre_nil (by rfl) (by rfl) rfl (by rfl) (by decide) (fun L h2 t2 S C2 => ?_)
  refine p_asg (wpC_of ?_)
  with_reducible refine x_call ?_
  with_reducible refine x_glob S (g_varint_size S.g) ?_
  refine x_cw (K := hd.heap_1 c.w.params) (by rfl) ?_
  (with_reducible refine x_arg (x_loc (by assumption) (by ((repeat refine it_ne ?_ (by decide)); first | assumption | exact it_eq | with_unfolding_all rfl)) ?_); with_reducible refine x_argN ?_)
  refine ⟨S.g.X, ?_⟩
  refine spec_varint_size k0 k1 (S.cx C2) S.g (fun ul h t R => ?_)
  have S := S.ret (pre := []) R rfl
  with_reducible refine x_store S (fun h t S => ?_)
  refine p_if ?_
  (with_reducible refine wpAny_isTrue_Compare1 (x_loc (by assumption) (by ((repeat refine it_ne ?_ (by decide)); first | assumption | exact it_eq | with_unfolding_all rfl)) ?_); with_reducible refine i_none (c_isNone (wpAny_truthy_bool ?_)))
  refine ⟨fun _ => ?_, fun q => (nomatch q)⟩
  refine p_asg (wpC_of ?_)
  with_reducible refine x_loc (by assumption) (by ((repeat refine it_ne ?_ (by decide)); first | assumption | exact it_eq | with_unfolding_all rfl)) ?_
  with_reducible refine x_store S (fun h t S => ?_)
  refine p_nilN ?_
  have hz := vsz_is k
  have hx : ∃ i : Nat, [1, 2, 4, 8].findIdx? (· == vsz k) = some i ∧ (i : Int) = vix k ∧ vix k * 2 ^ (8 * vsz k - 2).toNat + k < 2 ^ (8 * vsz k).toNat ∧ k < 2 ^ (8 * vsz k - 2).toNat := by
    unfold vsz vix
    split
    · exact ⟨0, by decide, rfl, by simp; (first | lia | omega), by simp; (first | lia | omega)⟩
    · split
      · exact ⟨1, by decide, rfl, by simp; (first | lia | omega), by simp; (first | lia | omega)⟩
      · split
        · exact ⟨2, by decide, rfl, by simp; (first | lia | omega), by simp; (first | lia | omega)⟩
        · exact ⟨3, by decide, rfl, by simp; (first | lia | omega), by simp; (first | lia | omega)⟩
  obtain ⟨ix, h1, h2, h3, h4⟩ := hx
  have v3 : vix k ≤ 3 := by unfold vix; split <;> (try split) <;> (try split) <;> decide
  refine p_if ?_
  (with_reducible refine isTrue_or (wpAny_isTrue_Compare1 (x_loc (by assumption) (by ((repeat refine it_ne ?_ (by decide)); first | assumption | exact it_eq | with_unfolding_all rfl)) ?_)); with_reducible refine x_loc (by assumption) (by ((repeat refine it_ne ?_ (by decide)); first | assumption | exact it_eq | with_unfolding_all rfl)) ?_; with_reducible refine c_lt (wpAny_truthy_bool ?_))
  rw [if_neg (by simp)]
  with_reducible refine isTrue_or (wpAny_isTrue_Compare1 (x_loc (by assumption) (by ((repeat refine it_ne ?_ (by decide)); first | assumption | exact it_eq | with_unfolding_all rfl)) ?_))
  with_reducible refine x_glob S (g_VARINT_SIZES S.g) ?_
  refine c_notInT (fun y => match y with | .int i _ => i == vsz k | _ => false) (VS_at S.g) (fun y hy => ?_) ?_
  · simp only [List.mem_cons, List.mem_nil_iff, or_false] at hy
    rcases hy with rfl | rfl | rfl | rfl <;> exact SeqAt.EqAt.int_int _ _ _ _
  with_reducible refine wpAny_truthy_bool ?_
  rw [show (!(List.any [Value.int 1 264, .int 2 265, .int 4 266, .int 8 267] fun y => match y with | .int i _ => i == vsz k | _ => false)) = false from by rcases hz with z | z | z | z <;> rw [z] <;> rfl]
  rw [if_neg (by decide)]
  with_reducible refine isTrue_or_nil ?_
  refine ⟨fun q => (nomatch q), fun _ => ?_⟩
  refine p_nilN ?_
  refine p_ret ?_
  refine p_call ?_
  with_reducible refine x_glob S (g_put_whole S.g) ?_
  refine p_cw (K := hd.heap_1 c.w.params) (by rfl) ?_
  with_reducible refine x_arg (wpAny_BinOp (wpAny_BinOp ?_))
  refine x_callA ?_
  with_reducible refine x_glob S (g_VARINT_SIZES S.g) ?_
  refine m_tupIndex (S.g.X 62 _ (by rfl)) rfl rfl ?_
  with_reducible refine x_cwB1 ?_
  (with_reducible refine x_arg (x_loc (by assumption) (by ((repeat refine it_ne ?_ (by decide)); first | assumption | exact it_eq | with_unfolding_all rfl)) ?_); with_reducible refine x_argN ?_)
  refine k_tupIndex4 (VS_at S.g) (fun i u t hi => ?_) (by rw [h1]; rfl)
  obtain rfl : ix = i := Option.some.inj (h1.symm.trans hi)
  with_reducible refine wpAny_BinOp (wpAny_BinOp (i_int (fun _ _ => x_loc (by assumption) (by ((repeat refine it_ne ?_ (by decide)); first | assumption | exact it_eq | with_unfolding_all rfl)) ?_)))
  with_reducible refine i_mul (fun _ _ => ?_) (IntMulOk.of_left (by decide +kernel))
  with_reducible refine i_int (fun _ _ => i_sub (fun _ _ => ?_))
  with_reducible refine i_shl (by (first | lia | omega)) (by (first | lia | omega)) (by (first | lia | omega)) (fun _ _ => ?_)
  with_reducible refine x_loc (by assumption) (by ((repeat refine it_ne ?_ (by decide)); first | assumption | exact it_eq | with_unfolding_all rfl)) ?_
  with_reducible refine i_or (fun _ _ => ?_)
  rw [bor_low (by (first | lia | omega)) k0 h4, h2]
  (with_reducible refine x_arg (x_loc (by assumption) (by ((repeat refine it_ne ?_ (by decide)); first | assumption | exact it_eq | with_unfolding_all rfl)) ?_); with_reducible refine x_argN ?_)
  refine ⟨S.g.X, ?_⟩
  have v0 : 0 ≤ vix k := by (first | lia | omega)
  refine spec_put_whole hz (Int.add_nonneg (Int.mul_nonneg v0 (Int.le_of_lt (Int.pow_pos (by decide)))) k0) h3 (S.cx C2) S.g (fun b u h t hb R => ?_)
  have S := S.ret (pre := []) R rfl
  exact K b u h t hb (S.done rfl)


-- F4
/-- the number that octets make -/
noncomputable def num (l : List Int) : Int := l.foldl (fun a b => a * 256 + b) 0
theorem num_succ {l : List Int} {i : Nat} {x : Int} (h : l[i]? = some x) : num (l.take (i + 1)) = num (l.take i) * 256 + x := by
  rw [List.take_add_one, h]
  simp [num]

theorem clip_pos {n : Nat} {i : Int} (i0 : 0 ≤ i) : clipAt n i = min i.toNat n := by
  obtain ⟨a, rfl⟩ := Int.eq_ofNat_of_zero_le i0
  exact clipAt_nat n a
theorem cut_eq {ks : List Int} {a z : Int} (a0 : 0 ≤ a) (z0 : 0 ≤ z) (q : a + z ≤ ks.length) :
    (ks.drop ((some a).elim 0 (clipAt ks.length))).take ((some (a + z)).elim ks.length (clipAt ks.length) - (some a).elim 0 (clipAt ks.length)) = (ks.drop a.toNat).take z.toNat := by
  show (ks.drop (clipAt ks.length a)).take (clipAt ks.length (a + z) - clipAt ks.length a) = _
  rw [clip_pos a0, clip_pos (by (first | lia | omega)), Nat.min_eq_left (by (first | lia | omega)), Nat.min_eq_left (by (first | lia | omega))]
  congr 1
  (first | lia | omega)
set_option maxHeartbeats 4000000 in
theorem spec_get_whole {b : Array UInt8} {ks : List Int} {at_ sz : Int} {u1 u2 u3 : Tok} (hk : KBw.bInts b = ks) (hf : ks.length ≤ 1000000) (a0 : 0 ≤ at_) (s0 : 0 ≤ sz) (C : Cx c (n + 3) A outer h none) (g : G c h)
    (K : at_ + sz ≤ ks.length → ∀ u h' t', Ret c (fsOf outer) h [] [] h' → Q (.int (num ((ks.drop at_.toNat).take sz.toNat)) u) (Mk s h' t'))
    (KE : (ks.length : Int) < at_ + sz → ∀ e h' t', Fly h 58 none e .none h' → Ext c [] (fsOf outer) h h' → E (.ref e) (Mk s h' t')) :
    wpAny (model pw c.w) A (call (.ref 76) [.bytes b u1, .int at_ u2, .int sz u3]) Q E (Mk s h t) := by
  refine enter (binds := [(Str.ofString "data", .bytes b u1), (Str.ofString "at", .int at_ u2), (Str.ofString "size", .int sz u3)]) C g pre_nil (by rfl) (by rfl) rfl (by rfl) (by decide) (fun L h2 t2 S C2 => ?_)
  refine x_if ?_
  (with_reducible refine wpAny_isTrue_Compare1 (wpAny_BinOp (x_loc (by assumption) (by ((repeat refine it_ne ?_ (by decide)); first | assumption | exact it_eq | with_unfolding_all rfl)) ?_)); with_reducible refine x_loc (by assumption) (by ((repeat refine it_ne ?_ (by decide)); first | assumption | exact it_eq | with_unfolding_all rfl)) ?_; with_reducible refine i_add (fun _ _ => x_call ?_))
  with_reducible refine x_blt S (b_len S.g) ?_
  with_reducible refine x_cwB ?_
  (with_reducible refine x_arg (x_loc (by assumption) (by ((repeat refine it_ne ?_ (by decide)); first | assumption | exact it_eq | with_unfolding_all rfl)) ?_); with_reducible refine x_argN ?_)
  refine k_len hk (by (first | lia | omega)) (fun _ _ => ?_)
  with_reducible refine c_gt (wpAny_truthy_bool ?_)
  refine ⟨fun q => ?_, fun q => ?_⟩
  · have q : (ks.length : Int) < at_ + sz := by simpa using q
    with_reducible refine x_raiseSt ?_
    with_reducible refine x_call ?_
    with_reducible refine x_glob S (g_Short S.g) ?_
    refine x_cw (K := hd.heap_1 c.w.params) (by rfl) ?_
    with_reducible refine x_arg (i_str (fun _ _ => x_argN ?_))
    refine ⟨S.g.X, ?_⟩
    refine x_short (by decide) S rfl rfl C2 (fun e h3 t3 X kp => ?_)
    exact x_out S rfl rfl C2.fr X kp (fun b q => (nomatch q)) (fun h4 X4 x4 => KE q e h4 t3 X4 x4)
  · have q : at_ + sz ≤ (ks.length : Int) := by simpa using q
    refine x_nilN ?_
    refine x_asg ?_
    with_reducible refine i_int (fun _ _ => ?_)
    with_reducible refine x_store S (fun h t S => ?_)
    refine x_for ?_
    with_reducible refine Subscript_ (x_loc (by assumption) (by ((repeat refine it_ne ?_ (by decide)); first | assumption | exact it_eq | with_unfolding_all rfl)) ?_)
    refine x_slice ?_
    (with_reducible refine x_loc (by assumption) (by ((repeat refine it_ne ?_ (by decide)); first | assumption | exact it_eq | with_unfolding_all rfl)) ?_; with_reducible refine wpAny_BinOp (x_loc (by assumption) (by ((repeat refine it_ne ?_ (by decide)); first | assumption | exact it_eq | with_unfolding_all rfl)) ?_); with_reducible refine x_loc (by assumption) (by ((repeat refine it_ne ?_ (by decide)); first | assumption | exact it_eq | with_unfolding_all rfl)) ?_; with_reducible refine i_add (fun _ _ => ?_))
    refine k_slice S hk (IsPart.int _ _) (IsPart.int _ _) (by (first | lia | omega)) (fun h u t S hp => ?_)
    rw [cut_eq a0 s0 q] at hp
    refine iter_bytes S (fun I h I0 S _ => ?_)
    refine x_loop (KBy.picked b (some at_) (some (at_ + sz))).size (fun i m led => ∃ uf, led = [(I, ItB (KBy.picked b (some at_) (some (at_ + sz))) u i)] ∧ m (Str.ofString "found") = some (.int (num (((ks.drop at_.toNat).take sz.toNat).take i)) uf))
      S ⟨_, rfl, by ((repeat refine it_ne ?_ (by decide)); first | assumption | exact it_eq | with_unfolding_all rfl)⟩ (fun i m led h t hi S hJ => ?_) (fun m led h t S hJ => ?_)
    · obtain ⟨uf, rfl, hm⟩ := hJ
      have hc := KBw.ints_get (b := KBy.picked b (some at_) (some (at_ + sz))) (i := i) (Array.getElem?_eq_getElem hi)
      rw [hp] at hc
      refine next_bytes S (Array.getElem?_eq_getElem hi) (fun h v t S _ => ?_)
      refine x_turn S (fun h t S => ?_)
      refine x_asg ?_
      (with_reducible refine wpAny_BinOp (wpAny_BinOp (x_loc (by assumption) (by ((repeat refine it_ne ?_ (by decide)); first | assumption | exact it_eq | with_unfolding_all rfl)) ?_)); with_reducible refine i_int (fun _ _ => ?_))
      with_reducible refine i_mul (fun _ _ => ?_) (IntMulOk.of_right (by decide +kernel))
      (with_reducible refine x_loc (by assumption) (by ((repeat refine it_ne ?_ (by decide)); first | assumption | exact it_eq | with_unfolding_all rfl)) ?_; with_reducible refine i_add (fun _ _ => ?_))
      rw [← num_succ hc]
      with_reducible refine x_store S (fun h t S => ?_)
      refine x_nil ?_
      exact ⟨_, _, _, _, rfl, S, _, rfl, lk_eq⟩
    · obtain ⟨uf, rfl, hm⟩ := hJ
      refine end_bytes S I0 (by simp) C2.hd (fun h S => ?_)
      refine x_ret ?_
      with_reducible refine x_loc (by assumption) (by ((repeat refine it_ne ?_ (by decide)); first | assumption | exact it_eq | with_unfolding_all rfl)) ?_
      have hl : (KBy.picked b (some at_) (some (at_ + sz))).size = ((ks.drop at_.toNat).take sz.toNat).length := by rw [← hp, KBw.ints_length]
      rw [hl, List.take_length]
      exact K q _ _ _ (S.done rfl)


-- F5
theorem fly_h (hf : env.frame = some L) (x : Ext c [] (fsOf (env :: outer)) h h') : Kp h (L :: fsOf outer) h h' := by rw [fs_cons hf] at x; exact x.toKp
noncomputable def gsz (o : Int) : Int := if o < 64 then 1 else if o < 128 then 2 else if o < 192 then 4 else 8
/-- a number read at a place: itself and the place behind it -/
noncomputable def gvar (ks : List Int) (at_ : Int) : Option (Int × Int) :=
  if (ks.length : Int) ≤ at_ then none else
  if (ks.length : Int) < at_ + gsz (ks.getD at_.toNat 0) then none else
  some (num ((ks.drop at_.toNat).take (gsz (ks.getD at_.toNat 0)).toNat) % 2 ^ (8 * gsz (ks.getD at_.toNat 0) - 2).toNat, at_ + gsz (ks.getD at_.toNat 0))
theorem gsz_is (k : Int) : gsz k = 1 ∨ gsz k = 2 ∨ gsz k = 4 ∨ gsz k = 8 := by unfold gsz; split <;> (try split) <;> (try split) <;> simp
theorem num_nonneg : ∀ {l : List Int} {a : Int}, 0 ≤ a → (∀ x ∈ l, 0 ≤ x) → 0 ≤ l.foldl (fun a b => a * 256 + b) a
  | [], a, ha, _ => ha
  | x :: l, a, ha, h => num_nonneg (l := l) (by have := h x (List.mem_cons_self ..); show 0 ≤ a * 256 + x; (first | lia | omega)) fun y hy => h y (List.mem_cons_of_mem _ hy)
theorem num_pos {l : List Int} (h : ∀ x ∈ l, 0 ≤ x) : 0 ≤ num l := num_nonneg (by decide) h
theorem seq_ix {j n : Nat} (h : j < n) : seqIndex? (j : Int) n = some j := by
  unfold seqIndex?
  simp only [show ¬ (j : Int) < 0 from by (first | lia | omega), if_false]
  rw [if_pos (by simp only [Bool.and_eq_true, decide_eq_true_eq]; (first | lia | omega))]
  simp
theorem gsz_ix {o : Int} (o0 : 0 ≤ o) (o1 : o < 256) : ∃ j : Nat, ∃ tz, o.fdiv (2 ^ (6 : Int).toNat) = j ∧ j < 4 ∧ [Value.int 1 264, .int 2 265, .int 4 266, .int 8 267][j]? = some (.int (gsz o) tz) := by
  rw [Int.fdiv_eq_ediv_of_nonneg _ (by decide)]
  unfold gsz
  split
  · exact ⟨0, 264, by simp; (first | lia | omega), by decide, rfl⟩
  · split
    · exact ⟨1, 265, by simp; (first | lia | omega), by decide, rfl⟩
    · split
      · exact ⟨2, 266, by simp; (first | lia | omega), by decide, rfl⟩
      · exact ⟨3, 267, by simp; (first | lia | omega), by decide, rfl⟩
theorem band_low {x : Int} {m : Nat} (x0 : 0 ≤ x) : Builtin.bitAnd x (2 ^ m - 1) = x % 2 ^ m := by
  have p1 : (1 : Int) ≤ 2 ^ m := Int.pow_pos (by decide)
  rw [bitAnd_pp x0 (by (first | lia | omega))]
  have e : ((2 : Int) ^ m - 1).toNat = 2 ^ m - 1 := by
    have : ((2 : Int) ^ m) = ((2 ^ m : Nat) : Int) := by simp
    rw [this]; (first | lia | omega)
  rw [e, Nat.and_two_pow_sub_one_eq_mod]
  obtain ⟨a, rfl⟩ := Int.eq_ofNat_of_zero_le x0
  simp

set_option maxHeartbeats 4000000 in
theorem spec_get_varint {b : Array UInt8} {ks : List Int} {at_ : Int} {u1 u2 : Tok} (hk : KBw.bInts b = ks) (hf : ks.length ≤ 1000000) (a0 : 0 ≤ at_) (C : Cx c (n + 4) A outer h none) (g : G c h)
    (K : ∀ v e, gvar ks at_ = some (v, e) → ∀ T u1 u2 h' t', Ret c (fsOf outer) h [] [(T, Tup [.int v u1, .int e u2])] h' → Q (.ref T) (Mk s h' t'))
    (KE : gvar ks at_ = none → ∀ e h' t', Fly h 58 none e .none h' → Ext c [] (fsOf outer) h h' → E (.ref e) (Mk s h' t')) :
    wpAny (model pw c.w) A (call (.ref 97) [.bytes b u1, .int at_ u2]) Q E (Mk s h t) := by
  refine enter (binds := [(Str.ofString "data", .bytes b u1), (Str.ofString "at", .int at_ u2)]) C g pre_nil (by rfl) (by rfl) rfl (by rfl) (by decide) (fun L h2 t2 S C2 => ?_)
  refine x_if ?_
  (with_reducible refine wpAny_isTrue_Compare1 (x_loc (by assumption) (by ((repeat refine it_ne ?_ (by decide)); first | assumption | exact it_eq | with_unfolding_all rfl)) ?_); with_reducible refine x_call ?_)
  with_reducible refine x_blt S (b_len S.g) ?_
  with_reducible refine x_cwB ?_
  (with_reducible refine x_arg (x_loc (by assumption) (by ((repeat refine it_ne ?_ (by decide)); first | assumption | exact it_eq | with_unfolding_all rfl)) ?_); with_reducible refine x_argN ?_)
  refine k_len hk (by (first | lia | omega)) (fun _ _ => ?_)
  with_reducible refine c_ge (wpAny_truthy_bool ?_)
  refine ⟨fun q => ?_, fun q => ?_⟩
  · have q : (ks.length : Int) ≤ at_ := by simpa using q
    with_reducible refine x_raiseSt ?_
    with_reducible refine x_call ?_
    with_reducible refine x_glob S (g_Short S.g) ?_
    refine x_cw (K := hd.heap_1 c.w.params) (by rfl) ?_
    with_reducible refine x_arg (i_str (fun _ _ => x_argN ?_))
    refine ⟨S.g.X, ?_⟩
    refine x_short (by decide) S rfl rfl (Cx.le (n := n + 3) (k := n + 2) C2 (by exact Nat.le_add_right _ 1)) (fun e h3 t3 X kp => ?_)
    exact x_out S rfl rfl C2.fr X kp (fun b q => (nomatch q)) (fun h4 X4 x4 => KE (by unfold gvar; rw [if_pos q]) e h4 t3 X4 x4)
  · have q : at_ < (ks.length : Int) := by simpa using q
    refine x_nilN ?_
    refine x_asg ?_
    with_reducible refine Subscript_ ?_
    with_reducible refine x_glob S (g_VARINT_SIZES S.g) ?_
    (with_reducible refine wpAny_BinOp (Subscript_ (x_loc (by assumption) (by ((repeat refine it_ne ?_ (by decide)); first | assumption | exact it_eq | with_unfolding_all rfl)) ?_)); with_reducible refine x_loc (by assumption) (by ((repeat refine it_ne ?_ (by decide)); first | assumption | exact it_eq | with_unfolding_all rfl)) ?_)
    with_reducible refine k_item hk (by (first | lia | omega)) a0 q (fun _ _ o0 o1 => ?_)
    with_reducible refine i_int (fun _ _ => ?_)
    with_reducible refine i_shr (by decide) (fun _ _ => ?_)
    have hgz := gsz_is (ks.getD at_.toNat 0)
    obtain ⟨j, tz, hj1, hj2, hj3⟩ := gsz_ix o0 o1
    rw [hj1]
    refine i_tup (VS_at S.g) (by (first | lia | omega)) (by (first | lia | omega)) (seq_ix (by simpa using hj2)) hj3 ?_
    with_reducible refine x_store S (fun h t S => ?_)
    refine x_ret ?_
    refine x_tup ?_
    with_reducible refine x_arg (wpAny_BinOp (x_call ?_))
    with_reducible refine x_glob S (g_get_whole S.g) ?_
    refine x_cw (K := hd.heap_1 c.w.params) (by rfl) ?_
    (with_reducible refine x_arg (x_loc (by assumption) (by ((repeat refine it_ne ?_ (by decide)); first | assumption | exact it_eq | with_unfolding_all rfl)) ?_); with_reducible refine x_arg (x_loc (by assumption) (by ((repeat refine it_ne ?_ (by decide)); first | assumption | exact it_eq | with_unfolding_all rfl)) ?_); with_reducible refine x_arg (x_loc (by assumption) (by ((repeat refine it_ne ?_ (by decide)); first | assumption | exact it_eq | with_unfolding_all rfl)) ?_); with_reducible refine x_argN ?_)
    refine ⟨S.g.X, ?_⟩
    refine spec_get_whole hk hf a0 (by (first | lia | omega)) (S.cx C2) S.g (fun q2 u h t R => ?_) (fun q2 e h3 t3 X x => ?_)
    · have S := S.ret (pre := []) R rfl
      have hg : gvar ks at_ = some (num ((ks.drop at_.toNat).take (gsz (ks.getD at_.toNat 0)).toNat) % 2 ^ (8 * gsz (ks.getD at_.toNat 0) - 2).toNat, at_ + gsz (ks.getD at_.toNat 0)) := by
        unfold gvar; rw [if_neg (by (first | lia | omega)), if_neg (by (first | lia | omega))]
      with_reducible refine wpAny_BinOp (wpAny_BinOp (i_int (fun _ _ => wpAny_BinOp (wpAny_BinOp (i_int (fun _ _ => x_loc (by assumption) (by ((repeat refine it_ne ?_ (by decide)); first | assumption | exact it_eq | with_unfolding_all rfl)) ?_))))))
      with_reducible refine i_mul (fun _ _ => ?_) (IntMulOk.of_left (by decide +kernel))
      with_reducible refine i_int (fun _ _ => i_sub (fun _ _ => ?_))
      with_reducible refine i_shl (by (first | lia | omega)) (by (first | lia | omega)) (by decide) (fun _ _ => ?_)
      with_reducible refine i_int (fun _ _ => i_sub (fun _ _ => ?_))
      with_reducible refine i_and (fun _ _ => ?_)
      rw [Int.one_mul, band_low (num_pos fun x hx => by
        have hx := List.mem_of_mem_drop (List.mem_of_mem_take hx)
        rw [← hk] at hx
        exact (KBw.ints_in hx).1)]
      (with_reducible refine x_arg (wpAny_BinOp (x_loc (by assumption) (by ((repeat refine it_ne ?_ (by decide)); first | assumption | exact it_eq | with_unfolding_all rfl)) ?_)); with_reducible refine x_loc (by assumption) (by ((repeat refine it_ne ?_ (by decide)); first | assumption | exact it_eq | with_unfolding_all rfl)) ?_; with_reducible refine i_add (fun _ _ => x_argN ?_))
      refine mk_tup S (by simp) (fun T h T0 S _ => ?_)
      exact K _ _ hg _ _ _ _ _ (S.done (post := []) rfl)
    · exact x_out S rfl rfl C2.fr X (fly_h rfl x) (fun b q => (nomatch q)) (fun h4 X4 x4 => KE (by unfold gvar; rw [if_neg (by (first | lia | omega)), if_pos q2]) e h4 t3 X4 x4)


-- F6
theorem RdK.is {d : Addr} {o : Obj} (z : RdK d o) : o.cls = .ref 149 ∧ o.dict = some d ∧ ∀ cc, o.data ≠ .cls cc := z
theorem ext_new {D' : List Addr} {h1 : Heap} (x1 : Ext c [] Fs h h1) (x2 : Ext c D' Fs h1 h') (hn : ∀ b ∈ D', h.get? b = none) (hF : ∀ b ∈ Fs, ∃ o, h.get? b = some o) : Ext c [] Fs h h' := by
  refine x1.step x2 (fun b hb => .inr (hn b hb)) (fun b hb => .inl hb) (fun b hb q => ?_)
  obtain ⟨o, e⟩ := hF b q
  exact nn_of e (hn b hb)

set_option maxHeartbeats 4000000 in
theorem spec_reader {b : Array UInt8} {u : Tok} (C : Cx c (n + 2) A outer h hv) (g : G c h)
    (K : ∀ x d h' t', d ≠ x → Ret c (fsOf outer) h [] [(d, NsR b 0), (x, RdK d)] h' → Q (.ref x) (Mk s h' t')) :
    wpAny (model pw c.w) A (call (.ref 149) [.bytes b u]) Q E (Mk s h t) := by
  obtain ⟨mN, hN, hi, _⟩ := ns_reader g
  refine wpAny_call_obj_init (h := h) F.objNew (cls_reader g) hN hi (g.X 111 _ (by rfl)) rfl (fun h1 x d hm => ?_)
  have x1 : Ext c [] (fsOf outer) h h1 := (Ext.refl c [] _ h).keep hm.keeps
  have g1 : G c h1 := g.ext x1
  obtain ⟨o, hx, hc, hnc, hdd⟩ := hm.inst
  have hod := hm.dict o hx
  obtain ⟨ne, hns⟩ : d ≠ x ∧ h1.Ns1 d (fun _ => none) := by
    rcases hdd with ⟨z, _⟩ | ⟨d', z, ne, hns⟩
    · rw [hod] at z; cases z
    · rw [hod] at z; injection z with z; subst z; exact ⟨ne, hns⟩
  have C1 : Cx c (n + 1) (A.under (.builtin "type.__call__" ⟨[.ref 149, .bytes b u], []⟩)) outer h1 hv := (Cx.under C 149 [.bytes b u]).at hm.keeps
  have P : Pre c (fsOf outer) h1 [(d, NsK (fun _ => none)), (x, RdK d)] := by
    refine ⟨fun q hq => ?_, by simp [ne], fun b hb q => ?_, fun q hq => ?_⟩
    · simp only [List.mem_cons, List.mem_nil_iff, or_false] at hq
      rcases hq with rfl | rfl
      · exact At.ofNs1 hns
      · exact ⟨o, hx, hc, hod, hnc⟩
    · obtain ⟨o', e⟩ := C.ok.lv b hb
      simp only [List.map_cons, List.map_nil, List.mem_cons, List.mem_nil_iff, or_false] at q
      rcases q with rfl | rfl
      · exact nn_of e hm.newD
      · exact nn_of e hm.newX
    · simp only [List.mem_cons, List.mem_nil_iff, or_false] at hq
      rcases hq with rfl | rfl
      · exact .inl (g.new hm.newD)
      · exact .inl (g.new hm.newX)
  show wpAny _ _ _ _ _ (Mk s h1 t)
  refine enter (binds := [(Str.ofString "self", .ref x), (Str.ofString "data", .bytes b u)]) C1 g1 P (by rfl) (by rfl) rfl (by rfl) (by decide) (fun L h2 t2 S C2 => ?_)
  obtain ⟨mN, hN, _, _, _, _, _, n1, _, _, n4, n5⟩ := ns_reader S.g
  with_reducible refine x_asgAttr ?_
  (with_reducible refine x_loc (by assumption) (by ((repeat refine it_ne ?_ (by decide)); first | assumption | exact it_eq | with_unfolding_all rfl)) ?_; with_reducible refine x_loc (by assumption) (by ((repeat refine it_ne ?_ (by decide)); first | assumption | exact it_eq | with_unfolding_all rfl)) ?_)
  with_reducible refine ob_set F.store_object S (fun o z => RdK.is z) (cls_reader S.g) hN n1 n4 lk_obj_data Within.nil (by rw [sizeLine_eq]; decide) (fun h t S => ?_)
  obtain ⟨mN, hN, _, _, _, _, _, n1, _, _, n4, n5⟩ := ns_reader S.g
  with_reducible refine x_asgAttr ?_
  with_reducible refine i_int (fun _ _ => x_loc (by assumption) (by ((repeat refine it_ne ?_ (by decide)); first | assumption | exact it_eq | with_unfolding_all rfl)) ?_)
  with_reducible refine ob_set F.store_object S (fun o z => RdK.is z) (cls_reader S.g) hN n1 n5 lk_obj_at (Within.cons _ _ Within.nil) (by rw [sizeLine_eq]; decide) (fun h3 t3 S => ?_)
  refine x_nil ⟨rfl, ?_⟩
  refine K x d h3 t3 ne ⟨ext_new x1 S.ext (fun b hb => ?_) C.ok.lv, fun _ q => (nomatch q), fun q hq => ?_, by simp [ne]⟩
  · simp only [List.map_cons, List.map_nil, List.mem_cons, List.mem_nil_iff, or_false] at hb
    rcases hb with rfl | rfl
    · exact hm.newD
    · exact hm.newX
  · simp only [List.mem_cons, List.mem_nil_iff, or_false] at hq
    rcases hq with rfl | rfl
    · obtain ⟨o2, e2, z⟩ := S.head
      exact ⟨⟨o2, e2, _, u, _, z, (if_neg (by decide)).trans (if_pos rfl), if_pos rfl, fun y hy => by
        by_cases q : y = Str.ofString "at"
        · rw [q]; simp
        · by_cases q2 : y = Str.ofString "data"
          · rw [q2]; simp
          · simp [q, q2] at hy⟩, hm.newD⟩
    · exact ⟨S.second, hm.newX⟩

set_option maxHeartbeats 4000000 in
theorem spec_left {b : Array UInt8} {ks : List Int} {k : Int} {x d : Addr} (hk : KBw.bInts b = ks) (hf : ks.length ≤ 1000000) (C : Cx c (n + 1) A outer h hv) (g : G c h) (P : Pre c (fsOf outer) h [(d, NsR b k), (x, RdK d)])
    (K : ∀ u h' t', Ret c (fsOf outer) h [(d, NsR b k), (x, RdK d)] [] h' → Q (.int (ks.length - k) u) (Mk s h' t')) :
    wpAny (model pw c.w) A (call (.ref 118) [.ref x]) Q E (Mk s h t) := by
  have ne : d ≠ x := fun q => by have := P.nd; simp [q] at this
  refine enter (binds := [(Str.ofString "self", .ref x)]) C g P (by rfl) (by rfl) rfl (by rfl) (by decide) (fun L h2 t2 S C2 => ?_)
  refine x_ret ?_
  with_reducible refine wpAny_BinOp (x_call ?_)
  with_reducible refine x_blt S (b_len S.g) ?_
  with_reducible refine x_cwB ?_
  with_reducible refine x_arg ?_
  with_reducible refine x_attr ?_
  with_reducible refine x_loc (by assumption) (by ((repeat refine it_ne ?_ (by decide)); first | assumption | exact it_eq | with_unfolding_all rfl)) ?_
  refine rd_get (v := .none) S.g S.second S.head ne (.inl ⟨rfl, fun _ _ => ?_⟩)
  with_reducible refine x_argN ?_
  refine k_len hk (by (first | lia | omega)) (fun _ _ => ?_)
  with_reducible refine x_attr ?_
  with_reducible refine x_loc (by assumption) (by ((repeat refine it_ne ?_ (by decide)); first | assumption | exact it_eq | with_unfolding_all rfl)) ?_
  refine rd_get (v := .none) S.g S.second S.head ne (.inr ⟨rfl, fun _ _ => ?_⟩)
  with_reducible refine i_sub (fun _ _ => ?_)
  exact K _ _ _ (S.done (news := []) rfl)


-- F7
/-- objects of the caller's come into the ledger -/
theorem St.claim {pre : Led} (S : St c outer [] h0 L m led h) (P : Pre c (fsOf outer) h0 pre) : St c outer (pre.map (·.1)) h0 L m (pre ++ led) h := by
  have lv : ∀ b ∈ pre.map (·.1), ∃ o, h0.get? b = some o := fun b hb => by
    obtain ⟨q, hq, e⟩ := List.mem_map.mp hb
    obtain ⟨o, ho, _⟩ := P.at_ q hq
    exact ⟨o, e ▸ ho⟩
  have lnew : ∀ b ∈ led.map (·.1), h0.get? b = none := fun b hb => by
    obtain ⟨q, hq, e⟩ := List.mem_map.mp hb
    rcases S.own q hq with z | z
    · cases z
    · exact e ▸ z
  refine ⟨S.g, fun b o e => ?_, S.n0, S.ns, S.Lf, ?_, ?_, ?_, ?_, ?_, ?_, S.fo⟩
  · obtain ⟨o', e', z1, z2, z3⟩ := S.ext b o e
    exact ⟨o', e', z1, fun _ f => z2 (fun q => nomatch q) f, z3⟩
  · rw [List.map_append]
    refine List.nodup_append.mpr ⟨P.nd, S.nd, fun x hx y hy e => ?_⟩
    obtain ⟨o, ho⟩ := lv x hx
    exact nn_of ho (e ▸ lnew y hy)
  · rw [List.map_append]
    intro q
    rcases List.mem_append.mp q with q | q
    · obtain ⟨o, ho⟩ := lv _ q
      exact nn_of ho S.Lf
    · exact S.nL q
  · intro b hb
    obtain ⟨l, n⟩ := S.nF b hb
    refine ⟨l, ?_⟩
    rw [List.map_append]
    intro q
    rcases List.mem_append.mp q with q | q
    · exact P.nF b hb q
    · exact n q
  · intro q hq
    rcases List.mem_append.mp hq with hq | hq
    · exact S.ext.at (P.at_ q hq) (fun z => nomatch z) fun z => P.nF _ z (List.mem_map_of_mem hq)
    · exact S.lat q hq
  · intro q hq
    rcases List.mem_append.mp hq with hq | hq
    · exact .inl (List.mem_map_of_mem hq)
    · rcases S.own q hq with z | z
      · cases z
      · exact .inr z
  · intro q hq
    rcases List.mem_append.mp hq with hq | hq
    · exact P.hi q hq
    · exact S.hi q hq
theorem St.base {k : Kd} (S : St c outer [] h0 L m led h) (ha : At h0 a k) (nF : a ∉ fsOf outer) : At h a k := S.ext.at ha (fun z => nomatch z) nF

set_option maxHeartbeats 4000000 in
theorem spec_left' {b : Array UInt8} {ks : List Int} {k : Int} {x d : Addr} (hk : KBw.bInts b = ks) (hf : ks.length ≤ 1000000) (C : Cx c (n + 1) A outer h hv) (g : G c h)
    (hd : At h d (NsR b k)) (hx : At h x (RdK d)) (ne : d ≠ x) (nd : d ∉ fsOf outer) (nx : x ∉ fsOf outer)
    (K : ∀ u h' t', Ret c (fsOf outer) h [] [] h' → Q (.int (ks.length - k) u) (Mk s h' t')) :
    wpAny (model pw c.w) A (call (.ref 118) [.ref x]) Q E (Mk s h t) := by
  refine enter (binds := [(Str.ofString "self", .ref x)]) C g pre_nil (by rfl) (by rfl) rfl (by rfl) (by decide) (fun L h2 t2 S C2 => ?_)
  refine x_ret ?_
  with_reducible refine wpAny_BinOp (x_call ?_)
  with_reducible refine x_blt S (b_len S.g) ?_
  with_reducible refine x_cwB ?_
  with_reducible refine x_arg ?_
  with_reducible refine x_attr ?_
  with_reducible refine x_loc (by assumption) (by ((repeat refine it_ne ?_ (by decide)); first | assumption | exact it_eq | with_unfolding_all rfl)) ?_
  refine rd_get (v := .none) S.g (S.base hx nx) (S.base hd nd) ne (.inl ⟨rfl, fun _ _ => ?_⟩)
  with_reducible refine x_argN ?_
  refine k_len hk (by (first | lia | omega)) (fun _ _ => ?_)
  with_reducible refine x_attr ?_
  with_reducible refine x_loc (by assumption) (by ((repeat refine it_ne ?_ (by decide)); first | assumption | exact it_eq | with_unfolding_all rfl)) ?_
  refine rd_get (v := .none) S.g (S.base hx nx) (S.base hd nd) ne (.inr ⟨rfl, fun _ _ => ?_⟩)
  with_reducible refine i_sub (fun _ _ => ?_)
  exact K _ _ _ (S.done (news := []) rfl)

set_option maxHeartbeats 4000000 in
theorem spec_take {b : Array UInt8} {ks : List Int} {k mn : Int} {um : Tok} {x d : Addr} (hk : KBw.bInts b = ks) (hf : ks.length ≤ 1000000) (k0 : 0 ≤ k) (m0 : 0 ≤ mn) (C : Cx c (n + 3) A outer h none) (g : G c h) (P : Pre c (fsOf outer) h [(d, NsR b k), (x, RdK d)])
    (K : k + mn ≤ ks.length → ∀ b2 u h' t', KBw.bInts b2 = (ks.drop k.toNat).take mn.toNat → Ret c (fsOf outer) h [(d, NsR b (k + mn)), (x, RdK d)] [] h' → Q (.bytes b2 u) (Mk s h' t'))
    (KE : (ks.length : Int) < k + mn → ∀ e h' t', Fly h 58 none e .none h' → Ext c [] (fsOf outer) h h' → E (.ref e) (Mk s h' t')) :
    wpAny (model pw c.w) A (call (.ref 125) [.ref x, .int mn um]) Q E (Mk s h t) := by
  have ne : d ≠ x := fun q => by have := P.nd; simp [q] at this
  have hdd : At h d (NsR b k) := P.at_ _ (List.mem_cons_self ..)
  have hx : At h x (RdK d) := P.at_ _ (List.mem_cons_of_mem _ (List.mem_cons_self ..))
  have nd : d ∉ fsOf outer := fun q => P.nF _ q (by simp)
  have nx : x ∉ fsOf outer := fun q => P.nF _ q (by simp)
  refine enter (binds := [(Str.ofString "self", .ref x), (Str.ofString "many", .int mn um)]) C g pre_nil (by rfl) (by rfl) rfl (by rfl) (by decide) (fun L h2 t2 S C2 => ?_)
  have hL : ∀ {y : Addr} {k : Kd}, At h y k → y ∉ fsOf outer → y ∉ fsOf (envY (Str.ofString "Reader.take") { kind := .function, names := [(Str.ofString "self", .local), (Str.ofString "many", .local), (Str.ofString "Short", .globalImplicit)], isGenerator := false, isCoroutine := false } L 125 (.ref 124) [] :: outer) := fun hy ny q => by
    rw [fs_cons (L := L) rfl] at q
    rcases List.mem_cons.mp q with rfl | q
    · exact hy.nn S.Lf
    · exact ny q
  refine x_if ?_
  with_reducible refine wpAny_isTrue_Compare1 (x_loc (by assumption) (by ((repeat refine it_ne ?_ (by decide)); first | assumption | exact it_eq | with_unfolding_all rfl)) ?_)
  refine x_callA ?_
  with_reducible refine x_loc (by assumption) (by ((repeat refine it_ne ?_ (by decide)); first | assumption | exact it_eq | with_unfolding_all rfl)) ?_
  refine rd_meth S.g (S.base hx nx) (S.base hdd nd) ne (.inl ⟨rfl, rfl⟩) ?_
  refine x_cw01 (K := hd.heap_1 c.w.params) S.g.X (by rfl) ?_
  refine spec_left' hk hf (Cx.le (n := n + 2) (k := n + 1) (S.cx C2) (by exact Nat.le_add_right _ 1)) S.g (S.base hdd nd) (S.base hx nx) ne (hL hdd nd) (hL hx nx) (fun u1 h t R => ?_)
  have S := S.ret (pre := []) R rfl
  with_reducible refine c_gt (wpAny_truthy_bool ?_)
  refine ⟨fun q => ?_, fun q => ?_⟩
  · have q : (ks.length : Int) < k + mn := by have := of_decide_eq_true q; (first | lia | omega)
    with_reducible refine x_raiseSt ?_
    with_reducible refine x_call ?_
    with_reducible refine x_glob S (g_Short S.g) ?_
    refine x_cw (K := hd.heap_1 c.w.params) (by rfl) ?_
    with_reducible refine x_arg (i_str (fun _ _ => x_argN ?_))
    refine ⟨S.g.X, ?_⟩
    refine x_short (by decide) S rfl rfl C2 (fun e h3 t3 X kp => ?_)
    exact x_out S rfl rfl C2.fr X kp (fun b q => (nomatch q)) (fun h4 X4 x4 => KE q e h4 t3 X4 x4)
  · have q : k + mn ≤ (ks.length : Int) := by have := of_decide_eq_false q; (first | lia | omega)
    have S := S.claim P
    refine x_nilN ?_
    refine x_augA ?_
    with_reducible refine x_loc (by assumption) (by ((repeat refine it_ne ?_ (by decide)); first | assumption | exact it_eq | with_unfolding_all rfl)) ?_
    refine rd_get (v := .none) S.g S.second S.head ne (.inr ⟨rfl, fun _ _ => ?_⟩)
    with_reducible refine x_loc (by assumption) (by ((repeat refine it_ne ?_ (by decide)); first | assumption | exact it_eq | with_unfolding_all rfl)) ?_
    refine i_iadd (fun _ _ => ?_)
    refine rd_setAt S (fun h t S => ?_)
    refine x_ret ?_
    with_reducible refine Subscript_ ?_
    with_reducible refine x_attr ?_
    with_reducible refine x_loc (by assumption) (by ((repeat refine it_ne ?_ (by decide)); first | assumption | exact it_eq | with_unfolding_all rfl)) ?_
    refine rd_get (v := .none) S.g S.second S.head ne (.inl ⟨rfl, fun _ _ => ?_⟩)
    refine x_slice ?_
    with_reducible refine wpAny_BinOp ?_
    with_reducible refine x_attr ?_
    with_reducible refine x_loc (by assumption) (by ((repeat refine it_ne ?_ (by decide)); first | assumption | exact it_eq | with_unfolding_all rfl)) ?_
    refine rd_get (v := .none) S.g S.second S.head ne (.inr ⟨rfl, fun _ _ => ?_⟩)
    (with_reducible refine x_loc (by assumption) (by ((repeat refine it_ne ?_ (by decide)); first | assumption | exact it_eq | with_unfolding_all rfl)) ?_; with_reducible refine i_sub (fun _ _ => ?_))
    with_reducible refine x_attr ?_
    with_reducible refine x_loc (by assumption) (by ((repeat refine it_ne ?_ (by decide)); first | assumption | exact it_eq | with_unfolding_all rfl)) ?_
    refine rd_get (v := .none) S.g S.second S.head ne (.inr ⟨rfl, fun _ _ => ?_⟩)
    rw [show k + mn - mn = k from by (first | lia | omega)]
    refine k_slice S hk (IsPart.int _ _) (IsPart.int _ _) (by (first | lia | omega)) (fun h u t S hp => ?_)
    rw [cut_eq k0 m0 q] at hp
    exact K q _ _ _ _ hp (S.done (news := []) rfl)


-- F8
theorem nin_env {k : Kd} {y : Addr} (S : St c outer D h0 L m led h) (hf : env.frame = some L) (hy : At h0 y k) (ny : y ∉ fsOf outer) : y ∉ fsOf (env :: outer) := fun q => by
  rw [fs_cons (L := L) hf] at q
  rcases List.mem_cons.mp q with rfl | q
  · exact hy.nn S.Lf
  · exact ny q

set_option maxHeartbeats 4000000 in
theorem spec_whole {b : Array UInt8} {ks : List Int} {k sz : Int} {um : Tok} {x d : Addr} (hk : KBw.bInts b = ks) (hf : ks.length ≤ 1000000) (k0 : 0 ≤ k) (m0 : 0 ≤ sz) (C : Cx c (n + 4) A outer h none) (g : G c h) (P : Pre c (fsOf outer) h [(d, NsR b k), (x, RdK d)])
    (K : k + sz ≤ ks.length → ∀ u h' t', Ret c (fsOf outer) h [(d, NsR b (k + sz)), (x, RdK d)] [] h' → Q (.int (num ((ks.drop k.toNat).take sz.toNat)) u) (Mk s h' t'))
    (KE : (ks.length : Int) < k + sz → ∀ e h' t', Fly h 58 none e .none h' → Ext c [] (fsOf outer) h h' → E (.ref e) (Mk s h' t')) :
    wpAny (model pw c.w) A (call (.ref 139) [.ref x, .int sz um]) Q E (Mk s h t) := by
  have ne : d ≠ x := fun q => by have := P.nd; simp [q] at this
  have hdd : At h d (NsR b k) := P.at_ _ (List.mem_cons_self ..)
  have hx : At h x (RdK d) := P.at_ _ (List.mem_cons_of_mem _ (List.mem_cons_self ..))
  have nd : d ∉ fsOf outer := fun q => P.nF _ q (by simp)
  have nx : x ∉ fsOf outer := fun q => P.nF _ q (by simp)
  refine enter (binds := [(Str.ofString "self", .ref x), (Str.ofString "size", .int sz um)]) C g pre_nil (by rfl) (by rfl) rfl (by rfl) (by decide) (fun L h2 t2 S C2 => ?_)
  refine x_asg ?_
  with_reducible refine x_call ?_
  with_reducible refine x_glob S (g_get_whole S.g) ?_
  refine x_cw (K := hd.heap_1 c.w.params) (by rfl) ?_
  with_reducible refine x_arg ?_
  with_reducible refine x_attr ?_
  with_reducible refine x_loc (by assumption) (by ((repeat refine it_ne ?_ (by decide)); first | assumption | exact it_eq | with_unfolding_all rfl)) ?_
  refine rd_get (v := .none) S.g (S.base hx nx) (S.base hdd nd) ne (.inl ⟨rfl, fun _ _ => ?_⟩)
  with_reducible refine x_arg ?_
  with_reducible refine x_attr ?_
  with_reducible refine x_loc (by assumption) (by ((repeat refine it_ne ?_ (by decide)); first | assumption | exact it_eq | with_unfolding_all rfl)) ?_
  refine rd_get (v := .none) S.g (S.base hx nx) (S.base hdd nd) ne (.inr ⟨rfl, fun _ _ => ?_⟩)
  (with_reducible refine x_arg (x_loc (by assumption) (by ((repeat refine it_ne ?_ (by decide)); first | assumption | exact it_eq | with_unfolding_all rfl)) ?_); with_reducible refine x_argN ?_)
  refine ⟨S.g.X, ?_⟩
  refine spec_get_whole hk hf k0 m0 (S.cx C2) S.g (fun q u h t R => ?_) (fun q e h3 t3 X x => ?_)
  · have S := S.ret (pre := []) R rfl
    with_reducible refine x_store S (fun h t S => ?_)
    have S := S.claim P
    refine x_augA ?_
    with_reducible refine x_loc (by assumption) (by ((repeat refine it_ne ?_ (by decide)); first | assumption | exact it_eq | with_unfolding_all rfl)) ?_
    refine rd_get (v := .none) S.g S.second S.head ne (.inr ⟨rfl, fun _ _ => ?_⟩)
    with_reducible refine x_loc (by assumption) (by ((repeat refine it_ne ?_ (by decide)); first | assumption | exact it_eq | with_unfolding_all rfl)) ?_
    refine i_iadd (fun _ _ => ?_)
    refine rd_setAt S (fun h t S => ?_)
    refine x_ret ?_
    with_reducible refine x_loc (by assumption) (by ((repeat refine it_ne ?_ (by decide)); first | assumption | exact it_eq | with_unfolding_all rfl)) ?_
    exact K q _ _ _ (S.done (news := []) rfl)
  · exact x_out S rfl rfl C2.fr X (fly_h rfl x) (fun b q => (nomatch q)) (fun h4 X4 x4 => KE q e h4 t3 X4 x4)

set_option maxHeartbeats 4000000 in
theorem spec_varint {b : Array UInt8} {ks : List Int} {k : Int} {x d : Addr} (hk : KBw.bInts b = ks) (hf : ks.length ≤ 1000000) (k0 : 0 ≤ k) (C : Cx c (n + 5) A outer h none) (g : G c h) (P : Pre c (fsOf outer) h [(d, NsR b k), (x, RdK d)])
    (K : ∀ v e, gvar ks k = some (v, e) → ∀ u h' t', Ret c (fsOf outer) h [(d, NsR b e), (x, RdK d)] [] h' → Q (.int v u) (Mk s h' t'))
    (KE : gvar ks k = none → ∀ e h' t', Fly h 58 none e .none h' → Ext c [] (fsOf outer) h h' → E (.ref e) (Mk s h' t')) :
    wpAny (model pw c.w) A (call (.ref 146) [.ref x]) Q E (Mk s h t) := by
  have ne : d ≠ x := fun q => by have := P.nd; simp [q] at this
  have hdd : At h d (NsR b k) := P.at_ _ (List.mem_cons_self ..)
  have hx : At h x (RdK d) := P.at_ _ (List.mem_cons_of_mem _ (List.mem_cons_self ..))
  have nd : d ∉ fsOf outer := fun q => P.nF _ q (by simp)
  have nx : x ∉ fsOf outer := fun q => P.nF _ q (by simp)
  refine enter (binds := [(Str.ofString "self", .ref x)]) C g pre_nil (by rfl) (by rfl) rfl (by rfl) (by decide) (fun L h2 t2 S C2 => ?_)
  refine x_asgT ?_
  with_reducible refine x_call ?_
  with_reducible refine x_glob S (g_get_varint S.g) ?_
  refine x_cw (K := hd.heap_1 c.w.params) (by rfl) ?_
  with_reducible refine x_arg ?_
  with_reducible refine x_attr ?_
  with_reducible refine x_loc (by assumption) (by ((repeat refine it_ne ?_ (by decide)); first | assumption | exact it_eq | with_unfolding_all rfl)) ?_
  refine rd_get (v := .none) S.g (S.base hx nx) (S.base hdd nd) ne (.inl ⟨rfl, fun _ _ => ?_⟩)
  with_reducible refine x_arg ?_
  with_reducible refine x_attr ?_
  with_reducible refine x_loc (by assumption) (by ((repeat refine it_ne ?_ (by decide)); first | assumption | exact it_eq | with_unfolding_all rfl)) ?_
  refine rd_get (v := .none) S.g (S.base hx nx) (S.base hdd nd) ne (.inr ⟨rfl, fun _ _ => ?_⟩)
  with_reducible refine x_argN ?_
  refine ⟨S.g.X, ?_⟩
  refine spec_get_varint hk hf k0 (S.cx C2) S.g (fun v e q T u1 u2 h t R => ?_) (fun q e h3 t3 X x => ?_)
  · have S := S.ret (pre := []) R rfl
    refine x_unp S S.head C2.hd (fun h S _ => ?_)
    refine a_name S (fun h t S => ?_)
    refine a_attr ?_
    with_reducible refine x_loc (by assumption) (by ((repeat refine it_ne ?_ (by decide)); first | assumption | exact it_eq | with_unfolding_all rfl)) ?_
    have S := (S.sub (led' := []) List.nodup_nil (fun _ q => (nomatch q))).claim P
    refine rd_setAt S (fun h t S => ?_)
    refine a_nil ?_
    refine x_ret ?_
    with_reducible refine x_loc (by assumption) (by ((repeat refine it_ne ?_ (by decide)); first | assumption | exact it_eq | with_unfolding_all rfl)) ?_
    exact K v e q _ _ _ (S.done (news := []) rfl)
  · exact x_out S rfl rfl C2.fr X (fly_h rfl x) (fun b q => (nomatch q)) (fun h4 X4 x4 => KE q e h4 t3 X4 x4)


-- F9
noncomputable def pnames : List Str := [Str.ofString "original_destination_connection_id", Str.ofString "max_idle_timeout", Str.ofString "stateless_reset_token", Str.ofString "max_udp_payload_size", Str.ofString "initial_max_data", Str.ofString "initial_max_stream_data_bidi_local", Str.ofString "initial_max_stream_data_bidi_remote", Str.ofString "initial_max_stream_data_uni", Str.ofString "initial_max_streams_bidi", Str.ofString "initial_max_streams_uni", Str.ofString "ack_delay_exponent", Str.ofString "max_ack_delay", Str.ofString "disable_active_migration", Str.ofString "preferred_address", Str.ofString "active_connection_id_limit", Str.ofString "initial_source_connection_id", Str.ofString "retry_source_connection_id"]
noncomputable def pkinds : List Str := [Str.ofString "id", Str.ofString "number", Str.ofString "token", Str.ofString "number", Str.ofString "number", Str.ofString "number", Str.ofString "number", Str.ofString "number", Str.ofString "number", Str.ofString "number", Str.ofString "number", Str.ofString "number", Str.ofString "flag", Str.ofString "address", Str.ofString "number", Str.ofString "id", Str.ofString "id"]
noncomputable def pname (i : Nat) : Str := pnames.getD i Str.empty
noncomputable def pkind (i : Nat) : Str := pkinds.getD i Str.empty
noncomputable def prefs : List Value := [.ref 154, .ref 155, .ref 156, .ref 157, .ref 158, .ref 159, .ref 160, .ref 161, .ref 162, .ref 163, .ref 164, .ref 165, .ref 166, .ref 167, .ref 168, .ref 169, .ref 170]
theorem PR_at (g : G c h) : At h 171 (Tup prefs) := ⟨_, g.X 171 _ (by rfl), rfl, _, rfl⟩
theorem PR_row (g : G c h) {i : Nat} (hi : i < 17) : ∃ t1 t2 t3, At h (154 + i) (Tup [.int i t1, .str (pname i) t2, .str (pkind i) t3]) := by
  have h17 : i = 0 ∨ i = 1 ∨ i = 2 ∨ i = 3 ∨ i = 4 ∨ i = 5 ∨ i = 6 ∨ i = 7 ∨ i = 8 ∨ i = 9 ∨ i = 10 ∨ i = 11 ∨ i = 12 ∨ i = 13 ∨ i = 14 ∨ i = 15 ∨ i = 16 := lt17 i hi
  rcases h17 with rfl | rfl | rfl | rfl | rfl | rfl | rfl | rfl | rfl | rfl | rfl | rfl | rfl | rfl | rfl | rfl | rfl
  · exact ⟨_, _, _, _, g.X 154 _ (by rfl), rfl, _, rfl⟩
  · exact ⟨_, _, _, _, g.X 155 _ (by rfl), rfl, _, rfl⟩
  · exact ⟨_, _, _, _, g.X 156 _ (by rfl), rfl, _, rfl⟩
  · exact ⟨_, _, _, _, g.X 157 _ (by rfl), rfl, _, rfl⟩
  · exact ⟨_, _, _, _, g.X 158 _ (by rfl), rfl, _, rfl⟩
  · exact ⟨_, _, _, _, g.X 159 _ (by rfl), rfl, _, rfl⟩
  · exact ⟨_, _, _, _, g.X 160 _ (by rfl), rfl, _, rfl⟩
  · exact ⟨_, _, _, _, g.X 161 _ (by rfl), rfl, _, rfl⟩
  · exact ⟨_, _, _, _, g.X 162 _ (by rfl), rfl, _, rfl⟩
  · exact ⟨_, _, _, _, g.X 163 _ (by rfl), rfl, _, rfl⟩
  · exact ⟨_, _, _, _, g.X 164 _ (by rfl), rfl, _, rfl⟩
  · exact ⟨_, _, _, _, g.X 165 _ (by rfl), rfl, _, rfl⟩
  · exact ⟨_, _, _, _, g.X 166 _ (by rfl), rfl, _, rfl⟩
  · exact ⟨_, _, _, _, g.X 167 _ (by rfl), rfl, _, rfl⟩
  · exact ⟨_, _, _, _, g.X 168 _ (by rfl), rfl, _, rfl⟩
  · exact ⟨_, _, _, _, g.X 169 _ (by rfl), rfl, _, rfl⟩
  · exact ⟨_, _, _, _, g.X 170 _ (by rfl), rfl, _, rfl⟩
theorem prefs_get {i : Nat} (hi : i < 17) : prefs[i]? = some (.ref (154 + i)) := by
  have h17 : i = 0 ∨ i = 1 ∨ i = 2 ∨ i = 3 ∨ i = 4 ∨ i = 5 ∨ i = 6 ∨ i = 7 ∨ i = 8 ∨ i = 9 ∨ i = 10 ∨ i = 11 ∨ i = 12 ∨ i = 13 ∨ i = 14 ∨ i = 15 ∨ i = 16 := lt17 i hi
  rcases h17 with rfl | rfl | rfl | rfl | rfl | rfl | rfl | rfl | rfl | rfl | rfl | rfl | rfl | rfl | rfl | rfl | rfl <;> rfl

theorem own_go {I : Addr} {a : Addr} {i : Nat} {elts : List Expr} {k : Nat} {ps : Pos} {v : Value} {QU : Unit → Shared → Prop} (hI : At h I (ItT a i)) (H : QU () (Mk s h t)) : wpAny M A (letOwnedTupleGo (.Tuple elts k ps) (.ref I) v) QU E (Mk s h t) := by
  obtain ⟨o, e, hc, hdt⟩ := hI
  unfold letOwnedTupleGo
  cases v with
  | ref b =>
    refine wpAny_bind (wpAny_load (s := Mk s h t) e ?_)
    rw [hc, hdt]
    dsimp only
    have z : (["enumerate", "zip", "dict_itemiterator", "dict_reverseitemiterator", "odict_iterator", "itertools.zip_longest", "itertools.pairwise"] : List String).contains "tuple_iterator" = false := by decide +kernel
    rw [z, Bool.false_and, if_neg (by decide)]
    exact wpAny_pure H
  | _ => exact wpAny_pure H

/-- the row of a number -/
noncomputable def rowOf (k : Int) : Value := if 0 ≤ k ∧ k < 17 then .ref (154 + k.toNat) else .none
set_option maxHeartbeats 4000000 in
theorem spec_row {k : Int} {u : Tok} (C : Cx c (n + 1) A outer h none) (g : G c h)
    (K : ∀ h' t', Ret c (fsOf outer) h [] [] h' → Q (rowOf k) (Mk s h' t')) :
    wpAny (model pw c.w) A (call (.ref 205) [.int k u]) Q E (Mk s h t) := by
  refine enter (binds := [(Str.ofString "number", .int k u)]) C g pre_nil (by rfl) (by rfl) rfl (by rfl) (by decide) (fun L h2 t2 S C2 => ?_)
  refine x_for ?_
  with_reducible refine x_glob S (g_PARAM_ROWS S.g) ?_
  refine iter_tup S (PR_at S.g) (fun I h I0 S _ => ?_)
  refine x_loop 17 (fun i m led => led = [(I, ItT 171 i)] ∧ m (Str.ofString "number") = some (.int k u) ∧ ¬ (0 ≤ k ∧ k < i)) S ⟨rfl, by ((repeat refine it_ne ?_ (by decide)); first | assumption | exact it_eq | with_unfolding_all rfl), by (first | lia | omega)⟩ (fun i m led h t hi S hJ => ?_) (fun m led h t S hJ => ?_)
  · obtain ⟨rfl, hn, hb⟩ := hJ
    refine next_tup S (PR_at S.g) (prefs_get hi) (fun h S _ => ?_)
    refine x_turn S (fun h t S => ?_)
    obtain ⟨t1, t2, t3, hr⟩ := PR_row S.g hi
    refine x_if ?_
    (with_reducible refine wpAny_isTrue_Compare1 (Subscript_ (x_loc (by assumption) (by ((repeat refine it_ne ?_ (by decide)); first | assumption | exact it_eq | with_unfolding_all rfl)) ?_)); with_reducible refine i_int (fun _ _ => ?_))
    refine i_tup hr (by decide) (by decide) (j := 0) (by rfl) rfl ?_
    (with_reducible refine x_loc (by assumption) (by ((repeat refine it_ne ?_ (by decide)); first | assumption | exact it_eq | with_unfolding_all rfl)) ?_; with_reducible refine c_eq (wpAny_truthy_bool ?_))
    refine ⟨fun q => ?_, fun q => ?_⟩
    · have q : (i : Int) = k := by simpa using q
      refine x_ret ?_
      with_reducible refine x_loc (by assumption) (by ((repeat refine it_ne ?_ (by decide)); first | assumption | exact it_eq | with_unfolding_all rfl)) ?_
      have e : rowOf k = .ref (154 + i) := by unfold rowOf; rw [if_pos (by (first | lia | omega))]; congr 2; (first | lia | omega)
      rw [← e]
      exact K _ _ ((S.drop 1).done rfl)
    · have q : ¬ (i : Int) = k := by simpa using q
      refine x_nilN (x_nil ?_)
      exact ⟨_, _, _, _, rfl, S, rfl, by ((repeat refine it_ne ?_ (by decide)); first | assumption | exact it_eq | with_unfolding_all rfl), by (first | lia | omega)⟩
  · obtain ⟨rfl, hn, hb⟩ := hJ
    refine end_tup S I0 (PR_at S.g) (by rfl) C2.hd (fun h S => ?_)
    refine x_ret ?_
    with_reducible refine i_none ?_
    have e : rowOf k = .none := by unfold rowOf; rw [if_neg (by (first | lia | omega))]
    rw [← e]
    exact K _ _ (S.done rfl)


-- F10
noncomputable def bnds : List (Str × Int × Int) := [(Str.ofString "max_udp_payload_size", 1200, 4611686018427387903), (Str.ofString "initial_max_streams_bidi", 0, 1152921504606846976), (Str.ofString "initial_max_streams_uni", 0, 1152921504606846976), (Str.ofString "ack_delay_exponent", 0, 20), (Str.ofString "max_ack_delay", 0, 16383), (Str.ofString "active_connection_id_limit", 2, 4611686018427387903)]
noncomputable def inB (nm : Str) (k : Int) : List (Str × Int × Int) → Bool
  | [] => true
  | (o, l, m) :: r => (!(o == nm) || (decide (l ≤ k) && decide (k ≤ m))) && inB nm k r
/-- what read_number answers -/
noncomputable def readNum (nm : Str) (v : List Int) : Option Int := match gvar v 0 with
  | none => none
  | some (k, e) => if e = v.length then (if inB nm k bnds = true then some k else none) else none
noncomputable def brefs : List Value := [.ref 185, .ref 186, .ref 187, .ref 188, .ref 189, .ref 190]
theorem BO_at (g : G c h) : At h 191 (Tup brefs) := ⟨_, g.X 191 _ (by rfl), rfl, _, rfl⟩
theorem BO_row (g : G c h) {i : Nat} (hi : i < 6) : ∃ o l m t1 t2 t3, bnds[i]? = some (o, l, m) ∧ brefs[i]? = some (.ref (185 + i)) ∧ At h (185 + i) (Tup [.str o t1, .int l t2, .int m t3]) := by
  have h6 : i = 0 ∨ i = 1 ∨ i = 2 ∨ i = 3 ∨ i = 4 ∨ i = 5 := lt6 i hi
  rcases h6 with rfl | rfl | rfl | rfl | rfl | rfl
  · exact ⟨_, _, _, _, _, _, rfl, rfl, _, g.X 185 _ (by rfl), rfl, _, rfl⟩
  · exact ⟨_, _, _, _, _, _, rfl, rfl, _, g.X 186 _ (by rfl), rfl, _, rfl⟩
  · exact ⟨_, _, _, _, _, _, rfl, rfl, _, g.X 187 _ (by rfl), rfl, _, rfl⟩
  · exact ⟨_, _, _, _, _, _, rfl, rfl, _, g.X 188 _ (by rfl), rfl, _, rfl⟩
  · exact ⟨_, _, _, _, _, _, rfl, rfl, _, g.X 189 _ (by rfl), rfl, _, rfl⟩
  · exact ⟨_, _, _, _, _, _, rfl, rfl, _, g.X 190 _ (by rfl), rfl, _, rfl⟩
theorem inB_at {nm : Str} {k : Int} : ∀ {l : List (Str × Int × Int)} {i : Nat} {o : Str} {a b : Int}, l[i]? = some (o, a, b) → inB nm k (l.drop i) = ((!(o == nm) || (decide (a ≤ k) && decide (k ≤ b))) && inB nm k (l.drop (i + 1)))
  | [], i, _, _, _, h => by simp at h
  | x :: l, 0, o, a, b, h => by
    simp at h
    subst h
    rfl
  | x :: l, i + 1, o, a, b, h => by
    simp only [List.getElem?_cons_succ] at h
    exact inB_at (l := l) h

theorem x_againL {C : Addr} {k : Option Int} {e : Addr} {fl : Value} (S : St c outer D h0 L m led h) (hf : env.frame = some L) (hkf : env.scope.kind = .function) {h1 : Heap} (Cc : Cx c n A (env :: outer) h1 hv)
    (X : Fly h C k e fl h') (kp : Kp h (L :: fsOf outer) h h')
    (H : ∀ h2, Fly h C k e (rawInt L) h2 → Kp h (L :: fsOf outer) h h2 → E (.ref e) (Mk s h2 t)) : EL M A env E (.ref e) (Mk s h' t) := by
  have fs := fs_cons (outer := outer) hf
  have fok := S.fok hf hkf
  have fl : ∀ b ∈ fsOf (env :: outer), h.get? b ≠ none := fun b hb => by
    obtain ⟨_, o, _, _, e, _⟩ := fok.mem b hb
    rw [e]; exact fun q => nomatch q
  unfold EL notedBy
  refine x_note (c := c) X Cc.fr (fok.kp (fs ▸ kp)) fl (kp.lv (Lv.refl _)) hf fun h2 X2 k2 => ?_
  refine x_back X2 (rawInt_ne _) hf fun h3 X3 k3 => ?_
  exact H h3 X3 ((kp.trans (fs ▸ k2)).trans (k3.mono (Lv.refl _) fun b q => nomatch q))
theorem Hq.fly {lo : Heap} {k : Option Int} {e : Addr} {fl : Value} (X : Fly lo 58 k e fl h) : Hq (some (.ref e)) h := by
  obtain ⟨_, oe, vs, he, _, hd, _, hx, _⟩ := X
  exact .inr ⟨e, oe, vs, rfl, he, hd, hx rfl⟩
theorem cat_len {x y : Str} {k : Nat} (hx : x.length ≤ k) (h : k + y.length ≤ 1000) : x.length + y.length ≤ sizeLine ∧ (x ++ y).length ≤ 1000 := by
  have e : (x ++ y).length = x.length + y.length := Str.length_append x y
  rw [sizeLine_eq, e]; (first | lia | omega)

set_option maxHeartbeats 8000000 in
theorem spec_read_number {nm : Str} {b : Array UInt8} {ks : List Int} {u1 u2 : Tok} (hn : nm.length ≤ 60) (hk : KBw.bInts b = ks) (hf : ks.length ≤ 1000000) (C : Cx c (n + 5) A outer h none) (g : G c h)
    (K : ∀ k, readNum nm ks = some k → ∀ u h' t', Ret c (fsOf outer) h [] [] h' → Q (.int k u) (Mk s h' t'))
    (KE : readNum nm ks = none → ∀ e h' t', Fly h 38 (some 8) e .none h' → Ext c [] (fsOf outer) h h' → E (.ref e) (Mk s h' t')) :
    wpAny (model pw c.w) A (call (.ref 231) [.str nm u1, .bytes b u2]) Q E (Mk s h t) := by
  refine enterE (binds := [(Str.ofString "name", .str nm u1), (Str.ofString "value", .bytes b u2)]) C g pre_nil (by rfl) (by rfl) rfl (by rfl) (by decide) (fun L h2 t2 m QF EF A' hm hQ hN hE S C2 => ?_)
  have b0 := (hm (Str.ofString "name")).trans (b := some (Value.str nm u1)) (by rfl)
  have b1 := (hm (Str.ofString "value")).trans (b := some (Value.bytes b u2)) (by rfl)
  clear hm
  refine x_try ?_
  refine x_asgT ?_
  with_reducible refine x_call ?_
  with_reducible refine x_glob S (g_get_varint S.g) ?_
  refine x_cw (K := hd.heap_1 c.w.params) (by rfl) ?_
  (with_reducible refine x_arg (x_loc (by assumption) (by ((repeat refine it_ne ?_ (by decide)); first | assumption | exact it_eq | with_unfolding_all rfl)) ?_); with_reducible refine x_arg (i_int (fun _ _ => x_argN ?_)))
  refine ⟨S.g.X, ?_⟩
  refine spec_get_varint hk hf (by decide) (S.cx C2) S.g (fun v e q T u1 u2 h t R => ?_) (fun q e h3 t3 X x => ?_)
  · have S := S.ret (pre := []) R rfl
    refine x_unp S S.head C2.hd (fun h S _ => ?_)
    refine a_name S (fun h t S => ?_)
    refine a_name S (fun h t S => ?_)
    refine a_nil ?_
    refine x_nil ?_
    dsimp only
    have S := S.sub (led' := []) List.nodup_nil (fun _ q => (nomatch q))
    refine x_if ?_
    (with_reducible refine wpAny_isTrue_Compare1 (x_loc (by assumption) (by ((repeat refine it_ne ?_ (by decide)); first | assumption | exact it_eq | with_unfolding_all rfl)) ?_); with_reducible refine x_call ?_)
    with_reducible refine x_blt S (b_len S.g) ?_
    with_reducible refine x_cwB ?_
    (with_reducible refine x_arg (x_loc (by assumption) (by ((repeat refine it_ne ?_ (by decide)); first | assumption | exact it_eq | with_unfolding_all rfl)) ?_); with_reducible refine x_argN ?_)
    refine k_len hk (by (first | lia | omega)) (fun _ _ => ?_)
    with_reducible refine c_ne (wpAny_truthy_bool ?_)
    refine ⟨fun q2 => ?_, fun q2 => ?_⟩
    · have q2 : e ≠ ks.length := by simpa using q2
      refine x_expr ?_
      with_reducible refine x_call ?_
      with_reducible refine x_glob S (g_refuse_params S.g) ?_
      refine x_cw (K := hd.heap_1 c.w.params) (by rfl) ?_
      (with_reducible refine x_arg (wpAny_BinOp (x_loc (by assumption) (by ((repeat refine it_ne ?_ (by decide)); first | assumption | exact it_eq | with_unfolding_all rfl)) ?_)); with_reducible refine i_str (fun _ _ => ?_))
      with_reducible refine i_cat (fun _ _ => ?_) (cat_len hn (by decide)).1
      with_reducible refine x_argN ?_
      refine ⟨S.g.X, ?_⟩
      refine spec_refuse (cat_len hn (by decide)).2 (Cx.le (n := n + 4) (k := n + 3) (S.cx C2) (by exact Nat.le_add_right _ 1)) S.g (.inl rfl) (fun e h t X x => ?_)
      exact hE _ _ (x_out S rfl rfl C2.fr X (fly_h rfl x) (fun b q => (nomatch q)) (fun h4 X4 x4 => KE (by unfold readNum; rw [q]; dsimp only; rw [if_neg q2]) e h4 _ X4 x4))
    · have q2 : e = ks.length := by simpa using q2
      refine x_nilN ?_
      refine x_for ?_
      with_reducible refine x_glob S (g_BOUNDS S.g) ?_
      refine iter_tup S (BO_at S.g) (fun I h I0 S _ => ?_)
      refine x_loop 6 (fun i m led => led = [(I, ItT 191 i)] ∧ (∃ uv, m (Str.ofString "number") = some (.int v uv)) ∧ (∃ uv, m (Str.ofString "name") = some (.str nm uv)) ∧ inB nm v bnds = inB nm v (bnds.drop i)) S ⟨rfl, ⟨_, by ((repeat refine it_ne ?_ (by decide)); first | assumption | exact it_eq | with_unfolding_all rfl)⟩, ⟨_, by ((repeat refine it_ne ?_ (by decide)); first | assumption | exact it_eq | with_unfolding_all rfl)⟩, rfl⟩ (fun i m led h t hi S hJ => ?_) (fun m led h t S hJ => ?_)
      · obtain ⟨rfl, ⟨uv, hv1⟩, ⟨un, hv2⟩, hb⟩ := hJ
        obtain ⟨o, lb, mb, t1, t2, t3, r1, r2, r3⟩ := BO_row S.g hi
        rw [inB_at r1] at hb
        refine next_tup S (BO_at S.g) r2 (fun h S _ => ?_)
        obtain ⟨_, _, _, _, _, _, r1', _, r3⟩ := BO_row S.g hi
        rw [r1] at r1'; cases r1'
        refine own_go S.head ?_
        refine x_unp S r3 C2.hd (fun h S _ => ?_)
        refine a_name S (fun h t S => ?_)
        refine a_name S (fun h t S => ?_)
        refine a_name S (fun h t S => ?_)
        refine a_nil ?_
        refine x_if ?_
        (with_reducible refine isTrue_and (wpAny_isTrue_Compare1 (x_loc (by assumption) (by ((repeat refine it_ne ?_ (by decide)); first | assumption | exact it_eq | with_unfolding_all rfl)) ?_)); with_reducible refine x_loc (by assumption) (by ((repeat refine it_ne ?_ (by decide)); first | assumption | exact it_eq | with_unfolding_all rfl)) ?_; with_reducible refine c_eqS (wpAny_truthy_bool ?_))
        have none_of : ∀ {z : Bool}, inB nm v bnds = (z && inB nm v (bnds.drop (i + 1))) → z = false → readNum nm ks = none := fun h1 h2 => by
          unfold readNum; rw [q]; dsimp only; rw [if_pos q2, h1, h2, if_neg (by simp)]
        by_cases q3 : (o == nm) = true
        · rw [if_pos q3]
          (with_reducible refine isTrue_and (isTrue_not (isTrue_chain (x_loc (by assumption) (by ((repeat refine it_ne ?_ (by decide)); first | assumption | exact it_eq | with_unfolding_all rfl)) ?_))); with_reducible refine test_link (x_loc (by assumption) (by ((repeat refine it_ne ?_ (by decide)); first | assumption | exact it_eq | with_unfolding_all rfl)) ?_); with_reducible refine c_le (wpAny_truthy_bool ?_))
          by_cases q4 : lb ≤ v
          · rw [if_pos (by simpa using q4)]
            (with_reducible refine t_last (x_loc (by assumption) (by ((repeat refine it_ne ?_ (by decide)); first | assumption | exact it_eq | with_unfolding_all rfl)) ?_); with_reducible refine c_le (wpAny_truthy_bool ?_))
            by_cases q5 : v ≤ mb
            · rw [decide_eq_true q5]
              rw [if_neg (by decide)]
              refine ⟨fun q => (nomatch q), fun _ => ?_⟩
              refine x_nilN (x_nil ?_)
              exact ⟨_, _, _, _, rfl, S, rfl, ⟨_, by ((repeat refine it_ne ?_ (by decide)); first | assumption | exact it_eq | with_unfolding_all rfl)⟩, ⟨_, by ((repeat refine it_ne ?_ (by decide)); first | assumption | exact it_eq | with_unfolding_all rfl)⟩, by rw [hb, q3, decide_eq_true q4, decide_eq_true q5]; rfl⟩
            · rw [decide_eq_false q5]
              rw [if_pos (by decide)]
              with_reducible refine isTrue_and_nil ?_
              refine ⟨fun _ => ?_, fun q => (nomatch q)⟩
              refine x_expr ?_
              with_reducible refine x_call ?_
              with_reducible refine x_glob S (g_refuse_params S.g) ?_
              refine x_cw (K := hd.heap_1 c.w.params) (by rfl) ?_
              (with_reducible refine x_arg (wpAny_BinOp (x_loc (by assumption) (by ((repeat refine it_ne ?_ (by decide)); first | assumption | exact it_eq | with_unfolding_all rfl)) ?_)); with_reducible refine i_str (fun _ _ => ?_))
              with_reducible refine i_cat (fun _ _ => ?_) (cat_len hn (by decide)).1
              with_reducible refine x_argN ?_
              refine ⟨S.g.X, ?_⟩
              refine spec_refuse (cat_len hn (by decide)).2 (Cx.le (n := n + 4) (k := n + 3) (S.cx C2) (by exact Nat.le_add_right _ 1)) S.g (.inl rfl) (fun e h t X x => ?_)
              refine x_againL S rfl rfl C2 X (fly_h rfl x) (fun h5 X5 k5 => ?_)
              exact hE _ _ (x_out S rfl rfl C2.fr X5 k5 (fun b q => (nomatch q)) (fun h4 X4 x4 => KE (none_of hb (by rw [q3, decide_eq_true q4, decide_eq_false q5]; rfl)) e h4 _ X4 x4))
          · rw [if_neg (by simpa using q4)]
            rw [if_pos (by decide)]
            with_reducible refine isTrue_and_nil ?_
            refine ⟨fun _ => ?_, fun q => (nomatch q)⟩
            refine x_expr ?_
            with_reducible refine x_call ?_
            with_reducible refine x_glob S (g_refuse_params S.g) ?_
            refine x_cw (K := hd.heap_1 c.w.params) (by rfl) ?_
            (with_reducible refine x_arg (wpAny_BinOp (x_loc (by assumption) (by ((repeat refine it_ne ?_ (by decide)); first | assumption | exact it_eq | with_unfolding_all rfl)) ?_)); with_reducible refine i_str (fun _ _ => ?_))
            with_reducible refine i_cat (fun _ _ => ?_) (cat_len hn (by decide)).1
            with_reducible refine x_argN ?_
            refine ⟨S.g.X, ?_⟩
            refine spec_refuse (cat_len hn (by decide)).2 (Cx.le (n := n + 4) (k := n + 3) (S.cx C2) (by exact Nat.le_add_right _ 1)) S.g (.inl rfl) (fun e h t X x => ?_)
            refine x_againL S rfl rfl C2 X (fly_h rfl x) (fun h5 X5 k5 => ?_)
            exact hE _ _ (x_out S rfl rfl C2.fr X5 k5 (fun b q => (nomatch q)) (fun h4 X4 x4 => KE (none_of hb (by rw [q3, decide_eq_false q4]; rfl)) e h4 _ X4 x4))
        · rw [if_neg q3]
          refine ⟨fun q => (nomatch q), fun _ => ?_⟩
          refine x_nilN (x_nil ?_)
          exact ⟨_, _, _, _, rfl, S, rfl, ⟨_, by ((repeat refine it_ne ?_ (by decide)); first | assumption | exact it_eq | with_unfolding_all rfl)⟩, ⟨_, by ((repeat refine it_ne ?_ (by decide)); first | assumption | exact it_eq | with_unfolding_all rfl)⟩, by rw [hb, Bool.eq_false_iff.mpr q3]; rfl⟩
      · obtain ⟨rfl, ⟨uv, hv1⟩, ⟨un, hv2⟩, hb⟩ := hJ
        refine end_tup S I0 (BO_at S.g) (by rfl) C2.hd (fun h S => ?_)
        refine x_ret ?_
        with_reducible refine x_loc (by assumption) (by ((repeat refine it_ne ?_ (by decide)); first | assumption | exact it_eq | with_unfolding_all rfl)) ?_
        exact hQ _ _ (K v (by unfold readNum; rw [q]; dsimp only; rw [if_pos q2, hb]; rfl) _ _ _ (S.done rfl))
  · refine x_catch S rfl rfl C2 (fun b q => (nomatch q)) (fun g hg => cls_short hg) X (fly_h rfl x) (fun h2 S2 Q E H => ?_) (fun h2 S2 X2 => ?_)
    · exact x_glob S2 (g_Short S2.g) H
    · refine x_expr ?_
      with_reducible refine x_call ?_
      with_reducible refine x_glob S2 (g_refuse_params S2.g) ?_
      refine x_cw (K := hd.heap_1 c.w.params) (by rfl) ?_
      (with_reducible refine x_arg (wpAny_BinOp (x_loc (by assumption) (by ((repeat refine it_ne ?_ (by decide)); first | assumption | exact it_eq | with_unfolding_all rfl)) ?_)); with_reducible refine i_str (fun _ _ => ?_))
      with_reducible refine i_cat (fun _ _ => ?_) (cat_len hn (by decide)).1
      with_reducible refine x_argN ?_
      refine ⟨S2.g.X, ?_⟩
      refine spec_refuse (cat_len hn (by decide)).2 ((Cx.le (n := n + 4) (k := n + 3) (S2.cx C2) (by exact Nat.le_add_right _ 1)).mark _) S2.g (Hq.fly X2) (fun e h t X x => ?_)
      refine x_again S2 rfl rfl C2 X (fly_h rfl x) (fun h5 X5 k5 => ?_)
      exact hE _ _ (x_out S2 rfl rfl C2.fr X5 k5 (fun b q => (nomatch q)) (fun h4 X4 x4 => KE (by unfold readNum; rw [q]) e h4 _ X4 x4))


-- F11
noncomputable def TQ (Q : Value → Shared → Prop) (vs : List Value) (s₁ : Shared) : Prop := vs.length ≤ sizeLine ∧ Q (.ref s₁.heap.objs.size) { s₁ with heap := s₁.heap.push { cls := .type "tuple", data := .seq vs.toArray } }
noncomputable def LQ (Q : Value → Shared → Prop) (vs : List Value) (s₁ : Shared) : Prop := vs.length ≤ sizeLine ∧ Q (.ref s₁.heap.objs.size) { s₁ with heap := s₁.heap.push { cls := .type "list", data := .seq vs.toArray } }
theorem x_tupQ {elts : List Expr} {k : Nat} {pos : Pos} (H : wpAny M A (spliced (backTo pos (starEach elts env))) (TQ Q) E s) : wpAny M A (eval (.Tuple elts k pos) env) Q E s := x_tup H
theorem x_lstQ {elts : List Expr} {pos : Pos} (H : wpAny M A (spliced (backTo pos (starEach elts env))) (LQ Q) E s) : wpAny M A (eval (.List elts pos) env) Q E s := x_lst H
theorem mk_tupQ {vs : List Value} (S : St c outer D h0 L m led h) (hz : vs.length ≤ 100) (H : ∀ a h', h0.get? a = none → St c outer D h0 L m ((a, Tup vs) :: led) h' → (∀ b o, h.get? b = some o → h'.get? b = some o) → Q (.ref a) (Mk s h' t)) : TQ Q vs (Mk s h t) := mk_tup S hz H
theorem mk_listQ {vs : List Value} (S : St c outer D h0 L m led h) (hz : vs.length ≤ 100) (H : ∀ a h', h0.get? a = none → St c outer D h0 L m ((a, Lst vs) :: led) h' → (∀ b o, h.get? b = some o → h'.get? b = some o) → Q (.ref a) (Mk s h' t)) : LQ Q vs (Mk s h t) := mk_list S hz H
theorem x_asgSw {elts : List Expr} {k : Nat} {tpos pos : Pos} {value : Expr} {rest : List Stmt} {QF : Flow → Shared → Prop} (names : List Str)
    (H : wpAny M A (eval value env) (fun v s₁ => wpAny M A (unpackItems v names.length none) (fun items s₂ =>
      wpAny M A (assignInOrder (names.reverse.map fun n => bindName env n) items.reverse) (fun _ s₃ => wpAny M A (execs rest env) QF E s₃) E s₂) E s₁) E s)
    (hs : swapsWithSole [.Tuple elts k tpos] value pos.line env = pure false := by with_unfolding_all rfl)
    (hw : swappedStores [.Tuple elts k tpos] value env = pure (some names) := by with_unfolding_all rfl) : wpAny M A (execs (.Assign [.Tuple elts k tpos] value pos :: rest) env) QF E s :=
  x_cons (Assign_Tuple_swapped H hs hw)
theorem x_unpI {T : Addr} {xs : List Value} {k : Nat} {QL : List Value → Shared → Prop} (S : St c outer D h0 L m led h) (ha : At h T (Tup xs)) (hh : A.handled = none) (hn : k = xs.length)
    (H : ∀ h', St c outer D h0 L m led h' → QL xs (Mk s h' t)) : wpAny (model p w) A (unpackItems (.ref T) k none) QL E (Mk s h t) := by
  subst hn
  have z := unpackItems_tuple (prog := p) (w := w) (A := A) (E := E) (s := Mk s h t) (Q := QL) hh ha.tup (fun h' eb => by
    exact H h' (S.keep fun b o e => eb b o (Nat.ne_of_lt (Heap.lt_size e)) e))
  simpa using z
theorem b_name {x : Str} {fs : List (Value → Sem Unit)} {v : Value} {vs : List Value} {QU : Unit → Shared → Prop} (S : St c outer D h0 L m led h)
    (H : ∀ h' t', St c outer D h0 L (fun y => if y = x then some v else m y) led h' → wpAny (model p w) A (assignInOrder fs vs) QU E (Mk s h' t'))
    (hk : scope.kind = .function := by with_unfolding_all rfl) (hl : (envY name scope L a cd cY).kindOf x = some .local := by with_unfolding_all rfl) :
    wpAny (model p w) A (assignInOrder ((fun v => bindName (envY name scope L a cd cY) x v) :: fs) (v :: vs)) QU E (Mk s h t) := assignInOrder_cons (wpAny_bindName (x_store S H hk hl))

theorem x_try' {body : List Stmt} {h₀ : ExceptHandler} {pos : Pos} {rest : List Stmt} {QF : Flow → Shared → Prop} (P : Value → Shared → Prop)
    (HE : ∀ e s₁, P e s₁ → wpAny (model p w) A (noteFrame e env) (fun _ s₂ => wpAny (model p w) A (setFlight e none) (fun _ s₃ => wpAny (model p w) A (handleBy e env [h₀]) (Nx (model p w) A env rest QF E) E s₃) E s₂) E s₁)
    (H : wpAny (model p w) A (execs body env) (fun f s₁ => match f with | .next => wpAny (model p w) A (execs rest env) QF E s₁ | f => QF f s₁) P s) :
    wpAny (model p w) A (execs (.Try body [h₀] [] [] pos :: rest) env) QF E s := x_try (wpAny_mono H (fun _ _ z => z) HE)
/-- a Short is on its way out of this body, which has no objects left that matter -/
noncomputable def Cau (c : Ct) (outer : List Env) (D : List Addr) (h0 : Heap) (L : Addr) (s : Shared) (R : Prop) (e : Value) (s₁ : Shared) : Prop :=
  ∃ x m h1 h2 t, e = .ref x ∧ s₁ = Mk s h2 t ∧ St c outer D h0 L m [] h1 ∧ Fly h1 58 none x .none h2 ∧ Kp h1 (L :: fsOf outer) h1 h2 ∧ R
theorem St.bare (S : St c outer D h0 L m led h) : St c outer D h0 L m [] h := S.sub (led' := []) List.nodup_nil (fun _ q => (nomatch q))
/-- what read_address answers -/
noncomputable def readAddr (v : List Int) : Option (List Int × Int × List Int × Int × List Int × List Int) :=
  if v.length < 25 then none else
  let z := num ((v.drop 24).take 1)
  if (v.length : Int) ≠ 41 + z then none else
  if 1 ≤ z ∧ z ≤ 20 then some (v.take 4, num ((v.drop 4).take 2), (v.drop 6).take 16, num ((v.drop 22).take 2), (v.drop 25).take z.toNat, (v.drop (25 + z.toNat)).take 16) else none

theorem n41a {l z : Int} (z0 : 0 ≤ z) (q : l < 0 + 4 + 2 + 16 + 2 + 1 + z) : l ≠ 41 + z := by (first | lia | omega)
theorem n41b {l z : Int} (q : l < 0 + 4 + 2 + 16 + 2 + 1 + z + 16) : l ≠ 41 + z := by (first | lia | omega)
theorem n41c {l z : Int} (q : l - (0 + 4 + 2 + 16 + 2 + 1 + z + 16) > 0) : l ≠ 41 + z := by (first | lia | omega)
theorem n41d {l : Nat} {z : Int} (q : 0 + 4 + 2 + 16 + 2 + 1 + z + 16 ≤ (l : Int)) (z0 : 0 ≤ z) (q8 : ¬ (l : Int) - (0 + 4 + 2 + 16 + 2 + 1 + z + 16) > 0) : ¬ l < 25 ∧ ¬ (l : Int) ≠ 41 + z := by (first | lia | omega)
theorem n41e {l : Nat} {z : Int} (q : 0 + 4 + 2 + 16 + 2 + 1 + z + 16 ≤ (l : Int)) (z0 : 0 ≤ z) : min z.toNat (l - 25) = z.toNat := by (first | lia | omega)
theorem n41f {z : Int} (z0 : 0 ≤ z) : (0 + 4 + 2 + 16 + 2 + 1 + z).toNat = 25 + z.toNat := by (first | lia | omega)
set_option maxHeartbeats 8000000 in
theorem spec_read_address {b : Array UInt8} {ks : List Int} {u2 : Tok} (hk : KBw.bInts b = ks) (hf : ks.length ≤ 1000000) (C : Cx c (n + 5) A outer h none) (g : G c h)
    (K : ∀ l1 i1 l2 i2 l3 l4, readAddr ks = some (l1, i1, l2, i2, l3, l4) → ∀ b1 b2 b3 b4 v1 v2 v3 v4 w1 w2 T h' t', KBw.bInts b1 = l1 → KBw.bInts b2 = l2 → KBw.bInts b3 = l3 → KBw.bInts b4 = l4 →
      Ret c (fsOf outer) h [] [(T, Tup [.bytes b1 v1, .int i1 w1, .bytes b2 v2, .int i2 w2, .bytes b3 v3, .bytes b4 v4])] h' → Q (.ref T) (Mk s h' t'))
    (KE : readAddr ks = none → ∀ e h' t', Fly h 38 (some 8) e .none h' → Ext c [] (fsOf outer) h h' → E (.ref e) (Mk s h' t')) :
    wpAny (model pw c.w) A (call (.ref 238) [.bytes b u2]) Q E (Mk s h t) := by
  refine enterE (binds := [(Str.ofString "value", .bytes b u2)]) C g pre_nil (by rfl) (by rfl) rfl (by rfl) (by decide) (fun L h2 t2 m QF EF A' hm hQ hN hE S C2 => ?_)
  have b0 := (hm (Str.ofString "value")).trans (b := some (Value.bytes b u2)) (by rfl)
  clear hm
  refine x_asg ?_
  with_reducible refine x_call ?_
  with_reducible refine x_glob S (g_Reader S.g) ?_
  refine x_cw (K := hd.heap_1 c.w.params) (by rfl) ?_
  (with_reducible refine x_arg (x_loc (by assumption) (by ((repeat refine it_ne ?_ (by decide)); first | assumption | exact it_eq | with_unfolding_all rfl)) ?_); with_reducible refine x_argN ?_)
  refine ⟨S.g.X, ?_⟩
  refine spec_reader (Cx.le (n := n + 4) (k := n + 2) (S.cx C2) (by exact Nat.le_add_right _ 2)) S.g (fun x d h3 t3 ne R => ?_)
  have S := S.ret (pre := []) R rfl
  with_reducible refine x_store S (fun h4 t4 S => ?_)
  obtain ⟨m1, em, S⟩ := S.op
  have r0 : m1 (Str.ofString "reader") = some (.ref x) := by rw [em]; ((repeat refine it_ne ?_ (by decide)); first | assumption | exact it_eq | with_unfolding_all rfl)
  clear em b0
  refine x_try' (Cau c outer [] h L s (readAddr ks = none)) (fun e s₁ z => ?_) ?_
  · obtain ⟨x, m, h1, h2, t, rfl, rfl, S, X, kp, q⟩ := z
    refine x_catch S rfl rfl C2 (fun b q => (nomatch q)) (fun g hg => cls_short hg) X kp (fun h2 S2 Q E H => ?_) (fun h2 S2 X2 => ?_)
    · exact x_glob S2 (g_Short S2.g) H
    · refine x_expr ?_
      with_reducible refine x_call ?_
      with_reducible refine x_glob S2 (g_refuse_params S2.g) ?_
      refine x_cw (K := hd.heap_1 c.w.params) (by rfl) ?_
      with_reducible refine x_arg (i_str (fun _ _ => x_argN ?_))
      refine ⟨S2.g.X, ?_⟩
      refine spec_refuse (by decide) ((Cx.le (n := n + 4) (k := n + 3) (S2.cx C2) (by exact Nat.le_add_right _ 1)).mark _) S2.g (Hq.fly X2) (fun e h t X x => ?_)
      refine x_again S2 rfl rfl C2 X (fly_h rfl x) (fun h5 X5 k5 => ?_)
      exact hE _ _ (x_out S2 rfl rfl C2.fr X5 k5 (fun b q => (nomatch q)) (fun h4 X4 x4 => KE q e h4 _ X4 x4))
  have sh : ∀ {l : Nat}, (ks.length : Int) < l → l ≤ 25 → readAddr ks = none := fun q1 q2 => by unfold readAddr; rw [if_pos (by (first | lia | omega))]
  refine x_asgSw [Str.ofString "four", Str.ofString "port"] ?_
  refine x_tupQ ?_
  with_reducible refine x_arg ?_
  refine x_callA ?_
  with_reducible refine x_loc (by assumption) (by ((repeat refine it_ne ?_ (by decide)); first | assumption | exact it_eq | with_unfolding_all rfl)) ?_
  refine rd_meth S.g S.second S.head ne (.inr (.inl ⟨rfl, rfl⟩)) ?_
  refine x_cw1 (K := hd.heap_1 c.w.params) (by rfl) ?_
  with_reducible refine x_arg (i_int (fun _ _ => x_argN ?_))
  refine ⟨S.g.X, ?_⟩
  refine spec_take (mn := 4) hk hf (by decide) (by decide) (Cx.le (n := n + 4) (k := n + 3) (S.cx C2) (by exact Nat.le_add_right _ 1)) S.g (S.toPre (rest := [])) (fun q1 b1 ua h t hb1 R => ?_) (fun q e h3 t3 X x => ?_)
  rotate_left
  · exact ⟨e, _, _, h3, t3, rfl, rfl, S.bare, X, fly_h rfl x, sh (l := 4) q (by decide)⟩
  have S := S.ret (pre := [(d, NsR b 0), (x, RdK d)]) (rest := []) R rfl
  with_reducible refine x_arg ?_
  refine x_callA ?_
  with_reducible refine x_loc (by assumption) (by ((repeat refine it_ne ?_ (by decide)); first | assumption | exact it_eq | with_unfolding_all rfl)) ?_
  refine rd_meth S.g S.second S.head ne (.inr (.inr (.inl ⟨rfl, rfl⟩))) ?_
  refine x_cw1 (K := hd.heap_1 c.w.params) (by rfl) ?_
  with_reducible refine x_arg (i_int (fun _ _ => x_argN ?_))
  refine ⟨S.g.X, ?_⟩
  refine spec_whole (sz := 2) hk hf (by decide) (by decide) (S.cx C2) S.g (S.toPre (rest := [])) (fun q2 ub h t R => ?_) (fun q e h3 t3 X x => ?_)
  rotate_left
  · exact ⟨e, _, _, h3, t3, rfl, rfl, S.bare, X, fly_h rfl x, sh (l := 6) q (by decide)⟩
  have S := S.ret (pre := [(d, NsR b (0 + 4)), (x, RdK d)]) (rest := []) R rfl
  generalize hp1 : num ((ks.drop (0 + 4 : Int).toNat).take (2 : Int).toNat) = p1
  with_reducible refine x_argN ?_
  refine mk_tupQ S (Nat.le_of_ble_eq_true rfl) (fun T h T0 S _ => ?_)
  refine x_unpI S S.head C2.hd rfl (fun h S => ?_)
  refine b_name S (fun h t S => ?_)
  refine b_name S (fun h t S => ?_)
  refine assignInOrder_nil ?_
  obtain ⟨m2, em, S⟩ := S.op
  have r1 : m2 (Str.ofString "reader") = some (.ref x) := by rw [em]; ((repeat refine it_ne ?_ (by decide)); first | assumption | exact it_eq | with_unfolding_all rfl)
  have r2 : m2 (Str.ofString "four") = some (.bytes b1 ua) := by rw [em]; ((repeat refine it_ne ?_ (by decide)); first | assumption | exact it_eq | with_unfolding_all rfl)
  have r3 : m2 (Str.ofString "port") = some (.int p1 ub) := by rw [em]; ((repeat refine it_ne ?_ (by decide)); first | assumption | exact it_eq | with_unfolding_all rfl)
  clear em r0
  have S := S.drop 1
  refine x_asgSw [Str.ofString "sixteen", Str.ofString "other_port"] ?_
  refine x_tupQ ?_
  with_reducible refine x_arg ?_
  refine x_callA ?_
  with_reducible refine x_loc (by assumption) (by ((repeat refine it_ne ?_ (by decide)); first | assumption | exact it_eq | with_unfolding_all rfl)) ?_
  refine rd_meth S.g S.second S.head ne (.inr (.inl ⟨rfl, rfl⟩)) ?_
  refine x_cw1 (K := hd.heap_1 c.w.params) (by rfl) ?_
  with_reducible refine x_arg (i_int (fun _ _ => x_argN ?_))
  refine ⟨S.g.X, ?_⟩
  refine spec_take (mn := 16) hk hf (by decide) (by decide) (Cx.le (n := n + 4) (k := n + 3) (S.cx C2) (by exact Nat.le_add_right _ 1)) S.g (S.toPre (rest := [])) (fun q3 b2 uc h t hb2 R => ?_) (fun q e h3 t3 X x => ?_)
  rotate_left
  · exact ⟨e, _, _, h3, t3, rfl, rfl, S.bare, X, fly_h rfl x, sh (l := 22) q (by decide)⟩
  have S := S.ret (pre := [(d, NsR b (0 + 4 + 2)), (x, RdK d)]) (rest := []) R rfl
  with_reducible refine x_arg ?_
  refine x_callA ?_
  with_reducible refine x_loc (by assumption) (by ((repeat refine it_ne ?_ (by decide)); first | assumption | exact it_eq | with_unfolding_all rfl)) ?_
  refine rd_meth S.g S.second S.head ne (.inr (.inr (.inl ⟨rfl, rfl⟩))) ?_
  refine x_cw1 (K := hd.heap_1 c.w.params) (by rfl) ?_
  with_reducible refine x_arg (i_int (fun _ _ => x_argN ?_))
  refine ⟨S.g.X, ?_⟩
  refine spec_whole (sz := 2) hk hf (by decide) (by decide) (S.cx C2) S.g (S.toPre (rest := [])) (fun q4 ud h t R => ?_) (fun q e h3 t3 X x => ?_)
  rotate_left
  · exact ⟨e, _, _, h3, t3, rfl, rfl, S.bare, X, fly_h rfl x, sh (l := 24) q (by decide)⟩
  have S := S.ret (pre := [(d, NsR b (0 + 4 + 2 + 16)), (x, RdK d)]) (rest := []) R rfl
  generalize hp2 : num ((ks.drop (0 + 4 + 2 + 16 : Int).toNat).take (2 : Int).toNat) = p2
  with_reducible refine x_argN ?_
  refine mk_tupQ S (Nat.le_of_ble_eq_true rfl) (fun T h T0 S _ => ?_)
  refine x_unpI S S.head C2.hd rfl (fun h S => ?_)
  refine b_name S (fun h t S => ?_)
  refine b_name S (fun h t S => ?_)
  refine assignInOrder_nil ?_
  obtain ⟨m3, em, S⟩ := S.op
  have r1 : m3 (Str.ofString "reader") = some (.ref x) := by rw [em]; ((repeat refine it_ne ?_ (by decide)); first | assumption | exact it_eq | with_unfolding_all rfl)
  have r2 : m3 (Str.ofString "four") = some (.bytes b1 ua) := by rw [em]; ((repeat refine it_ne ?_ (by decide)); first | assumption | exact it_eq | with_unfolding_all rfl)
  have r3 : m3 (Str.ofString "port") = some (.int p1 ub) := by rw [em]; ((repeat refine it_ne ?_ (by decide)); first | assumption | exact it_eq | with_unfolding_all rfl)
  have r4 : m3 (Str.ofString "sixteen") = some (.bytes b2 uc) := by rw [em]; ((repeat refine it_ne ?_ (by decide)); first | assumption | exact it_eq | with_unfolding_all rfl)
  have r5 : m3 (Str.ofString "other_port") = some (.int p2 ud) := by rw [em]; ((repeat refine it_ne ?_ (by decide)); first | assumption | exact it_eq | with_unfolding_all rfl)
  clear em
  have S := S.drop 1
  refine x_asg ?_
  refine x_callA ?_
  with_reducible refine x_loc (by assumption) (by ((repeat refine it_ne ?_ (by decide)); first | assumption | exact it_eq | with_unfolding_all rfl)) ?_
  refine rd_meth S.g S.second S.head ne (.inr (.inl ⟨rfl, rfl⟩)) ?_
  refine x_cw1 (K := hd.heap_1 c.w.params) (by rfl) ?_
  with_reducible refine x_arg ?_
  refine x_callA ?_
  with_reducible refine x_loc (by assumption) (by ((repeat refine it_ne ?_ (by decide)); first | assumption | exact it_eq | with_unfolding_all rfl)) ?_
  refine rd_meth S.g S.second S.head ne (.inr (.inr (.inl ⟨rfl, rfl⟩))) ?_
  refine x_cw1 (K := hd.heap_1 c.w.params) (by rfl) ?_
  with_reducible refine x_arg (i_int (fun _ _ => x_argN ?_))
  refine ⟨S.g.X, ?_⟩
  refine spec_whole (sz := 1) hk hf (by decide) (by decide) (S.cx C2) S.g (S.toPre (rest := [])) (fun q5 u h t R => ?_) (fun q e h3 t3 X x => ?_)
  rotate_left
  · exact ⟨e, _, _, h3, t3, rfl, rfl, S.bare, X, fly_h rfl x, sh (l := 25) q (by decide)⟩
  have S := S.ret (pre := [(d, NsR b (0 + 4 + 2 + 16 + 2)), (x, RdK d)]) (rest := []) R rfl
  with_reducible refine x_argN ?_
  refine ⟨S.g.X, ?_⟩
  have hz0 : 0 ≤ num ((ks.drop 24).take 1) := num_pos fun y hy => by
    have hy := List.mem_of_mem_drop (List.mem_of_mem_take hy)
    rw [← hk] at hy
    exact (KBw.ints_in hy).1
  generalize hz : num ((ks.drop 24).take 1) = z at hz0
  have hz' : num ((ks.drop (0 + 4 + 2 + 16 + 2 : Int).toNat).take (1 : Int).toNat) = z := hz
  rw [hz']
  have none2 : (ks.length : Int) ≠ 41 + z → readAddr ks = none := fun q => by
    unfold readAddr
    by_cases q25 : ks.length < 25
    · rw [if_pos q25]
    · rw [if_neg q25]; dsimp only; rw [hz, if_pos q]
  refine spec_take (mn := z) hk hf (by decide) hz0 (Cx.le (n := n + 4) (k := n + 3) (S.cx C2) (by exact Nat.le_add_right _ 1)) S.g (S.toPre (rest := [])) (fun q6 b3 u h t hb3 R => ?_) (fun q e h3 t3 X x => ?_)
  rotate_left
  · exact ⟨e, _, _, h3, t3, rfl, rfl, S.bare, X, fly_h rfl x, none2 (n41a hz0 q)⟩
  have S := S.ret (pre := [(d, NsR b (0 + 4 + 2 + 16 + 2 + 1)), (x, RdK d)]) (rest := []) R rfl
  with_reducible refine x_store S (fun h t S => ?_)
  refine x_asg ?_
  refine x_callA ?_
  with_reducible refine x_loc (by assumption) (by ((repeat refine it_ne ?_ (by decide)); first | assumption | exact it_eq | with_unfolding_all rfl)) ?_
  refine rd_meth S.g S.second S.head ne (.inr (.inl ⟨rfl, rfl⟩)) ?_
  refine x_cw1 (K := hd.heap_1 c.w.params) (by rfl) ?_
  with_reducible refine x_arg ?_
  with_reducible refine x_glob S (g_TOKEN_SIZE S.g) ?_
  with_reducible refine x_argN ?_
  refine ⟨S.g.X, ?_⟩
  refine spec_take (mn := 16) hk hf (Int.add_nonneg (by decide) hz0) (by decide) (Cx.le (n := n + 4) (k := n + 3) (S.cx C2) (by exact Nat.le_add_right _ 1)) S.g (S.toPre (rest := [])) (fun q7 b4 u h t hb4 R => ?_) (fun q e h3 t3 X x => ?_)
  rotate_left
  · exact ⟨e, _, _, h3, t3, rfl, rfl, S.bare, X, fly_h rfl x, none2 (n41b q)⟩
  have S := S.ret (pre := [(d, NsR b (0 + 4 + 2 + 16 + 2 + 1 + z)), (x, RdK d)]) (rest := []) R rfl
  with_reducible refine x_store S (fun h t S => ?_)
  refine x_nil ?_
  dsimp only
  refine x_if ?_
  with_reducible refine isTrue_or (wpAny_isTrue_Compare1 ?_)
  refine x_callA ?_
  with_reducible refine x_loc (by assumption) (by ((repeat refine it_ne ?_ (by decide)); first | assumption | exact it_eq | with_unfolding_all rfl)) ?_
  refine rd_meth S.g S.second S.head ne (.inl ⟨rfl, rfl⟩) ?_
  refine x_cw01 (K := hd.heap_1 c.w.params) S.g.X (by rfl) ?_
  refine spec_left hk hf (Cx.le (n := n + 4) (k := n + 1) (S.cx C2) (by exact Nat.le_add_right _ 3)) S.g (S.toPre (rest := [])) (fun u h t R => ?_)
  have S := S.ret (pre := [(d, NsR b (0 + 4 + 2 + 16 + 2 + 1 + z + 16)), (x, RdK d)]) (rest := []) R rfl
  have S := S.bare
  with_reducible refine i_int (fun _ _ => c_gt (wpAny_truthy_bool ?_))
  have l3 : ((ks.drop 25).take z.toNat).length = z.toNat := by rw [List.length_take, List.length_drop]; exact n41e q7 hz0
  have hb3' : KBw.bInts b3 = (ks.drop 25).take z.toNat := hb3
  have tooBig : (ks.length : Int) - (0 + 4 + 2 + 16 + 2 + 1 + z + 16) > 0 → readAddr ks = none := fun q => none2 (n41c q)
  have badId : ¬ (1 ≤ z ∧ z ≤ 20) → readAddr ks = none := fun q => by
    unfold readAddr
    by_cases q25 : ks.length < 25
    · rw [if_pos q25]
    · rw [if_neg q25]; dsimp only; rw [hz]
      by_cases q41 : (ks.length : Int) ≠ 41 + z
      · rw [if_pos q41]
      · rw [if_neg q41, if_neg q]
  by_cases q8 : (ks.length : Int) - (0 + 4 + 2 + 16 + 2 + 1 + z + 16) > 0
  · rw [if_pos (by simpa using q8)]
    refine ⟨fun _ => ?_, fun q => (nomatch q)⟩
    refine x_expr ?_
    with_reducible refine x_call ?_
    with_reducible refine x_glob S (g_refuse_params S.g) ?_
    refine x_cw (K := hd.heap_1 c.w.params) (by rfl) ?_
    with_reducible refine x_arg (i_str (fun _ _ => x_argN ?_))
    refine ⟨S.g.X, ?_⟩
    refine spec_refuse (by decide) (Cx.le (n := n + 4) (k := n + 3) (S.cx C2) (by exact Nat.le_add_right _ 1)) S.g (.inl rfl) (fun e h t X x => ?_)
    exact hE _ _ (x_out S rfl rfl C2.fr X (fly_h rfl x) (fun b q => (nomatch q)) (fun h4 X4 x4 => KE (tooBig q8) e h4 _ X4 x4))
  rw [if_neg (by simpa using q8)]
  with_reducible refine isTrue_or (isTrue_not (isTrue_chain (i_int (fun _ _ => test_link (x_call ?_)))))
  with_reducible refine x_blt S (b_len S.g) ?_
  with_reducible refine x_cwB ?_
  (with_reducible refine x_arg (x_loc (by assumption) (by ((repeat refine it_ne ?_ (by decide)); first | assumption | exact it_eq | with_unfolding_all rfl)) ?_); with_reducible refine x_argN ?_)
  refine k_len hb3' (by (first | lia | omega)) (fun _ _ => ?_)
  rw [l3]
  have hzz : ((z.toNat : Nat) : Int) = z := Int.toNat_of_nonneg hz0
  rw [hzz]
  with_reducible refine c_le (wpAny_truthy_bool ?_)
  by_cases q9 : 1 ≤ z
  · rw [if_pos (by simpa using q9)]
    with_reducible refine t_last ?_
    with_reducible refine x_glob S (g_MOST_ID S.g) ?_
    with_reducible refine c_le (wpAny_truthy_bool ?_)
    by_cases q10 : z ≤ 20
    · rw [decide_eq_true q10]
      rw [if_neg (by decide)]
      with_reducible refine isTrue_or_nil ?_
      refine ⟨fun q => (nomatch q), fun _ => ?_⟩
      refine x_nilN ?_
      refine x_ret ?_
      refine x_tupQ ?_
      (with_reducible refine x_arg (x_loc (by assumption) (by ((repeat refine it_ne ?_ (by decide)); first | assumption | exact it_eq | with_unfolding_all rfl)) ?_); with_reducible refine x_arg (x_loc (by assumption) (by ((repeat refine it_ne ?_ (by decide)); first | assumption | exact it_eq | with_unfolding_all rfl)) ?_); with_reducible refine x_arg (x_loc (by assumption) (by ((repeat refine it_ne ?_ (by decide)); first | assumption | exact it_eq | with_unfolding_all rfl)) ?_); with_reducible refine x_arg (x_loc (by assumption) (by ((repeat refine it_ne ?_ (by decide)); first | assumption | exact it_eq | with_unfolding_all rfl)) ?_); with_reducible refine x_arg (x_loc (by assumption) (by ((repeat refine it_ne ?_ (by decide)); first | assumption | exact it_eq | with_unfolding_all rfl)) ?_); with_reducible refine x_arg (x_loc (by assumption) (by ((repeat refine it_ne ?_ (by decide)); first | assumption | exact it_eq | with_unfolding_all rfl)) ?_); with_reducible refine x_argN ?_)
      refine mk_tupQ S (Nat.le_of_ble_eq_true rfl) (fun T h T0 S _ => ?_)
      exact hQ _ _ (K (ks.take 4) p1 ((ks.drop 6).take 16) p2 ((ks.drop 25).take z.toNat) ((ks.drop (25 + z.toNat)).take 16) (by unfold readAddr; rw [if_neg (n41d q7 hz0 q8).1]; dsimp only; rw [hz, if_neg (n41d q7 hz0 q8).2, if_pos ⟨q9, q10⟩, show num ((ks.drop 4).take 2) = p1 from hp1, show num ((ks.drop 22).take 2) = p2 from hp2]) _ _ _ _ _ _ _ _ _ _ _ _ _ hb1 hb2 hb3' (by rw [hb4]; exact congrArg (fun j => (ks.drop j).take 16) (n41f hz0)) (S.done (post := []) rfl))
    · rw [decide_eq_false q10]
      rw [if_pos (by decide)]
      refine ⟨fun _ => ?_, fun q => (nomatch q)⟩
      refine x_expr ?_
      with_reducible refine x_call ?_
      with_reducible refine x_glob S (g_refuse_params S.g) ?_
      refine x_cw (K := hd.heap_1 c.w.params) (by rfl) ?_
      with_reducible refine x_arg (i_str (fun _ _ => x_argN ?_))
      refine ⟨S.g.X, ?_⟩
      refine spec_refuse (by decide) (Cx.le (n := n + 4) (k := n + 3) (S.cx C2) (by exact Nat.le_add_right _ 1)) S.g (.inl rfl) (fun e h t X x => ?_)
      exact hE _ _ (x_out S rfl rfl C2.fr X (fly_h rfl x) (fun b q => (nomatch q)) (fun h4 X4 x4 => KE (badId (fun q => q10 q.2)) e h4 _ X4 x4))
  · rw [if_neg (by simpa using q9)]
    skip
    rw [if_pos (by decide)]
    refine ⟨fun _ => ?_, fun q => (nomatch q)⟩
    refine x_expr ?_
    with_reducible refine x_call ?_
    with_reducible refine x_glob S (g_refuse_params S.g) ?_
    refine x_cw (K := hd.heap_1 c.w.params) (by rfl) ?_
    with_reducible refine x_arg (i_str (fun _ _ => x_argN ?_))
    refine ⟨S.g.X, ?_⟩
    refine spec_refuse (by decide) (Cx.le (n := n + 4) (k := n + 3) (S.cx C2) (by exact Nat.le_add_right _ 1)) S.g (.inl rfl) (fun e h t X x => ?_)
    exact hE _ _ (x_out S rfl rfl C2.fr X (fly_h rfl x) (fun b q => (nomatch q)) (fun h4 X4 x4 => KE (badId (fun q => q9 q.1)) e h4 _ X4 x4))


-- F12
theorem x_in {P : Prop} (S : St c outer D h0 L m led h) (H : P) : (hd.heap_1 c.w.params).In (Mk s h t).heap ∧ P := ⟨S.g.X, H⟩
theorem br_t {X Y : Prop} (H : X) : (true = true → X) ∧ (true = false → Y) := ⟨fun _ => H, fun q => (nomatch q)⟩
theorem br_f {X Y : Prop} (H : Y) : (false = true → X) ∧ (false = false → Y) := ⟨fun q => (nomatch q), fun _ => H⟩
theorem br_c {b : Bool} {X Y : Prop} (H : b = true → X) (H' : b = false → Y) : (b = true → X) ∧ (b = false → Y) := ⟨H, H'⟩
theorem it_t {X Y : Prop} (H : X) : if true = true then X else Y := H
theorem it_f {X Y : Prop} (H : Y) : if false = true then X else Y := by simpa using H
theorem it_c {b : Bool} {X Y : Prop} (H : b = true → X) (H' : b = false → Y) : if b = true then X else Y := by cases b; exact H' rfl; exact H rfl
/-- what a parameter's value is -/
inductive Val where
  | num (k : Int)
  | flag (b : Bool)
  | oct (l : List Int)
  | addr (x : List Int × Int × List Int × Int × List Int × List Int)
inductive VL : Val → Value → Led → Prop
  | num {k : Int} (u : Tok) : VL (.num k) (.int k u) []
  | flag {b : Bool} : VL (.flag b) (.bool b) []
  | oct {l : List Int} {b : Array UInt8} (u : Tok) (hb : KBw.bInts b = l) : VL (.oct l) (.bytes b u) []
  | addr {l1 l2 l3 l4 : List Int} {i1 i2 : Int} {b1 b2 b3 b4 : Array UInt8} {v1 v2 v3 v4 w1 w2 : Tok} {T : Addr} (h1 : KBw.bInts b1 = l1) (h2 : KBw.bInts b2 = l2) (h3 : KBw.bInts b3 = l3) (h4 : KBw.bInts b4 = l4) :
      VL (.addr (l1, i1, l2, i2, l3, l4)) (.ref T) [(T, Tup [.bytes b1 v1, .int i1 w1, .bytes b2 v2, .int i2 w2, .bytes b3 v3, .bytes b4 v4])]
/-- what read_value answers -/
noncomputable def readVal (nm kd : Str) (v : List Int) : Option Val :=
  if (kd == Str.ofString "number") = true then (readNum nm v).map .num
  else if (kd == Str.ofString "address") = true then (readAddr v).map .addr
  else if (kd == Str.ofString "flag") = true then (if 0 < v.length then none else some (.flag true))
  else if ((kd == Str.ofString "token") && ((v.length : Int) != 16) || (kd == Str.ofString "id") && decide ((v.length : Int) > 20)) = true then none else some (.oct v)

set_option maxHeartbeats 8000000 in
theorem spec_read_value {nm kd : Str} {b : Array UInt8} {ks : List Int} {u1 u2 u3 : Tok} (hn : nm.length ≤ 60) (hk : KBw.bInts b = ks) (hf : ks.length ≤ 1000000) (C : Cx c (n + 6) A outer h none) (g : G c h)
    (K : ∀ x, readVal nm kd ks = some x → ∀ v news h' t', VL x v news → Ret c (fsOf outer) h [] news h' → Q v (Mk s h' t'))
    (KE : readVal nm kd ks = none → ∀ e h' t', Fly h 38 (some 8) e .none h' → Ext c [] (fsOf outer) h h' → E (.ref e) (Mk s h' t')) :
    wpAny (model pw c.w) A (call (.ref 245) [.str nm u1, .str kd u2, .bytes b u3]) Q E (Mk s h t) := by
  refine enterE (binds := [(Str.ofString "name", .str nm u1), (Str.ofString "kind", .str kd u2), (Str.ofString "value", .bytes b u3)]) C g pre_nil (by rfl) (by rfl) rfl (by rfl) (by decide) (fun L h2 t2 m QF EF A' hm hQ hN hE S C2 => ?_)
  have b0 := (hm (Str.ofString "name")).trans (b := some (Value.str nm u1)) (by rfl)
  have b1 := (hm (Str.ofString "kind")).trans (b := some (Value.str kd u2)) (by rfl)
  have b2 := (hm (Str.ofString "value")).trans (b := some (Value.bytes b u3)) (by rfl)
  clear hm
  (with_reducible refine x_if (wpAny_isTrue_Compare1 (x_loc (by assumption) (by ((repeat refine it_ne ?_ (by decide)); first | assumption | exact it_eq | with_unfolding_all rfl)) ?_)); with_reducible refine i_str (fun _ _ => c_eqS (wpAny_truthy_bool (br_c (fun q => ?_) (fun q => ?_)))); with_reducible refine x_ret (x_call (x_glob S (g_read_number S.g) (x_cw (K := hd.heap_1 c.w.params) (by with_unfolding_all rfl) (x_arg (x_loc (by assumption) (by ((repeat refine it_ne ?_ (by decide)); first | assumption | exact it_eq | with_unfolding_all rfl)) ?_))))); with_reducible refine x_arg (x_loc (by assumption) (by ((repeat refine it_ne ?_ (by decide)); first | assumption | exact it_eq | with_unfolding_all rfl)) ?_); with_reducible refine x_argN (x_in S ?_))
  · refine spec_read_number (n := n) hn hk hf (S.cx C2) S.g (fun k q2 u h t R => ?_) (fun q2 e h3 t3 X x => ?_)
    · have S := S.ret (pre := []) R rfl
      exact hQ _ _ (K (.num k) (by unfold readVal; rw [if_pos q, q2]; rfl) _ _ _ _ (.num _) (S.done rfl))
    · exact hE _ _ (x_out S rfl rfl C2.fr X (fly_h rfl x) (fun b q => (nomatch q)) (fun h4 X4 x4 => KE (by unfold readVal; rw [if_pos q, q2]; rfl) e h4 t3 X4 x4))
  have q1 := ne_true_of_eq_false q
  (with_reducible refine x_nilN (x_if (wpAny_isTrue_Compare1 (x_loc (by assumption) (by ((repeat refine it_ne ?_ (by decide)); first | assumption | exact it_eq | with_unfolding_all rfl)) ?_))); with_reducible refine i_str (fun _ _ => c_eqS (wpAny_truthy_bool (br_c (fun q => ?_) (fun q => ?_)))); with_reducible refine x_ret (x_call (x_glob S (g_read_address S.g) (x_cw (K := hd.heap_1 c.w.params) (by with_unfolding_all rfl) (x_arg (x_loc (by assumption) (by ((repeat refine it_ne ?_ (by decide)); first | assumption | exact it_eq | with_unfolding_all rfl)) ?_))))); with_reducible refine x_argN (x_in S ?_))
  · refine spec_read_address (n := n) hk hf (Cx.le (S.cx C2) (by exact Nat.le_refl _)) S.g (fun l1 i1 l2 i2 l3 l4 q2 b1 b2 b3 b4 v1 v2 v3 v4 w1 w2 T h t hb1 hb2 hb3 hb4 R => ?_) (fun q2 e h3 t3 X x => ?_)
    · have S := S.ret (pre := []) R rfl
      exact hQ _ _ (K (.addr _) (by unfold readVal; rw [if_neg q1, if_pos q, q2]; rfl) _ _ _ _ (.addr hb1 hb2 hb3 hb4) (S.done (post := []) rfl))
    · exact hE _ _ (x_out S rfl rfl C2.fr X (fly_h rfl x) (fun b q => (nomatch q)) (fun h4 X4 x4 => KE (by unfold readVal; rw [if_neg q1, if_pos q, q2]; rfl) e h4 t3 X4 x4))
  have q2 := ne_true_of_eq_false q
  (with_reducible refine x_nilN (x_if (wpAny_isTrue_Compare1 (x_loc (by assumption) (by ((repeat refine it_ne ?_ (by decide)); first | assumption | exact it_eq | with_unfolding_all rfl)) ?_))); with_reducible refine i_str (fun _ _ => c_eqS (wpAny_truthy_bool (br_c (fun q => ?_) (fun q => ?_)))); with_reducible refine x_if (wpAny_isTrue_Compare1 (x_call (x_blt S (b_len S.g) (x_cwB (x_arg (x_loc (by assumption) (by ((repeat refine it_ne ?_ (by decide)); first | assumption | exact it_eq | with_unfolding_all rfl)) ?_)))))); with_reducible refine x_argN ?_)
  · refine k_len hk (by (first | lia | omega)) (fun _ _ => ?_)
    (with_reducible refine i_int (fun _ _ => c_gt (wpAny_truthy_bool (br_c (fun q => ?_) (fun q => ?_)))); with_reducible refine x_expr (x_call (x_glob S (g_refuse_params S.g) (x_cw (K := hd.heap_1 c.w.params) (by with_unfolding_all rfl) (x_arg (wpAny_BinOp (x_loc (by assumption) (by ((repeat refine it_ne ?_ (by decide)); first | assumption | exact it_eq | with_unfolding_all rfl)) ?_)))))); with_reducible refine i_str (fun _ _ => ?_))
    · skip
      with_reducible refine i_cat (fun _ _ => ?_) (cat_len hn (by decide)).1
      with_reducible refine x_argN (x_in S ?_)
      refine spec_refuse (n := n + 2) (cat_len hn (by decide)).2 (Cx.le (S.cx C2) (by exact Nat.le_refl _)) S.g (.inl rfl) (fun e h t X x => ?_)
      exact hE _ _ (x_out S rfl rfl C2.fr X (fly_h rfl x) (fun b q => (nomatch q)) (fun h4 X4 x4 => KE (by unfold readVal; rw [if_neg q1, if_neg q2, if_pos (by assumption), if_pos (by simp_all)]) e h4 _ X4 x4))
    with_reducible refine x_nilN (x_ret (i_bool ?_))
    exact hQ _ _ (K (.flag true) (by unfold readVal; rw [if_neg q1, if_neg q2, if_pos (by assumption), if_neg (by simp_all)]) _ _ _ _ .flag (S.done rfl))
  have q3 := ne_true_of_eq_false q
  (with_reducible refine x_nilN (x_if (isTrue_or (isTrue_and (wpAny_isTrue_Compare1 (x_loc (by assumption) (by ((repeat refine it_ne ?_ (by decide)); first | assumption | exact it_eq | with_unfolding_all rfl)) ?_))))); with_reducible refine i_str (fun _ _ => c_eqS (wpAny_truthy_bool ?_)))
  refine it_c (fun q4 => ?_) (fun q4 => ?_)
  · (with_reducible refine isTrue_and (wpAny_isTrue_Compare1 (x_call (x_blt S (b_len S.g) (x_cwB (x_arg (x_loc (by assumption) (by ((repeat refine it_ne ?_ (by decide)); first | assumption | exact it_eq | with_unfolding_all rfl)) ?_)))))); with_reducible refine x_argN ?_)
    refine k_len hk (by (first | lia | omega)) (fun _ _ => ?_)
    with_reducible refine x_glob S (g_TOKEN_SIZE S.g) (c_ne (wpAny_truthy_bool ?_))
    refine it_c (fun q5 => ?_) (fun q5 => ?_)
    · (with_reducible refine isTrue_and_nil (it_t (br_t (x_expr (x_call (x_glob S (g_refuse_params S.g) (x_cw (K := hd.heap_1 c.w.params) (by with_unfolding_all rfl) (x_arg (wpAny_BinOp (x_loc (by assumption) (by ((repeat refine it_ne ?_ (by decide)); first | assumption | exact it_eq | with_unfolding_all rfl)) ?_))))))))); with_reducible refine i_str (fun _ _ => ?_))
      with_reducible refine i_cat (fun _ _ => ?_) (cat_len hn (by decide)).1
      with_reducible refine x_argN (x_in S ?_)
      refine spec_refuse (n := n + 2) (cat_len hn (by decide)).2 (Cx.le (S.cx C2) (by exact Nat.le_refl _)) S.g (.inl rfl) (fun e h t X x => ?_)
      exact hE _ _ (x_out S rfl rfl C2.fr X (fly_h rfl x) (fun b q => (nomatch q)) (fun h4 X4 x4 => KE (by unfold readVal; rw [if_neg q1, if_neg q2, if_neg q3, q4, q5, if_pos (by simp only [Bool.and_true, Bool.true_and, Bool.false_and, Bool.and_false, Bool.or_false, Bool.false_or, Bool.true_or, Bool.or_true])]) e h4 _ X4 x4))
    · (with_reducible refine it_f (isTrue_or (isTrue_and (wpAny_isTrue_Compare1 (x_loc (by assumption) (by ((repeat refine it_ne ?_ (by decide)); first | assumption | exact it_eq | with_unfolding_all rfl)) ?_)))); with_reducible refine i_str (fun _ _ => c_eqS (wpAny_truthy_bool ?_)))
      refine it_c (fun q6 => ?_) (fun q6 => ?_)
      · (with_reducible refine isTrue_and (wpAny_isTrue_Compare1 (x_call (x_blt S (b_len S.g) (x_cwB (x_arg (x_loc (by assumption) (by ((repeat refine it_ne ?_ (by decide)); first | assumption | exact it_eq | with_unfolding_all rfl)) ?_)))))); with_reducible refine x_argN ?_)
        refine k_len hk (by (first | lia | omega)) (fun _ _ => ?_)
        with_reducible refine x_glob S (g_MOST_ID S.g) (c_gt (wpAny_truthy_bool ?_))
        refine it_c (fun q7 => ?_) (fun q7 => ?_)
        · (with_reducible refine isTrue_and_nil (it_t (br_t (x_expr (x_call (x_glob S (g_refuse_params S.g) (x_cw (K := hd.heap_1 c.w.params) (by with_unfolding_all rfl) (x_arg (wpAny_BinOp (x_loc (by assumption) (by ((repeat refine it_ne ?_ (by decide)); first | assumption | exact it_eq | with_unfolding_all rfl)) ?_))))))))); with_reducible refine i_str (fun _ _ => ?_))
          with_reducible refine i_cat (fun _ _ => ?_) (cat_len hn (by decide)).1
          with_reducible refine x_argN (x_in S ?_)
          refine spec_refuse (n := n + 2) (cat_len hn (by decide)).2 (Cx.le (S.cx C2) (by exact Nat.le_refl _)) S.g (.inl rfl) (fun e h t X x => ?_)
          exact hE _ _ (x_out S rfl rfl C2.fr X (fly_h rfl x) (fun b q => (nomatch q)) (fun h4 X4 x4 => KE (by unfold readVal; rw [if_neg q1, if_neg q2, if_neg q3, q4, q5, q6, q7, if_pos (by simp only [Bool.and_true, Bool.true_and, Bool.false_and, Bool.and_false, Bool.or_false, Bool.false_or, Bool.true_or, Bool.or_true])]) e h4 _ X4 x4))
        · with_reducible refine it_f (isTrue_or_nil (br_f (x_nilN (x_ret (x_loc (by assumption) (by ((repeat refine it_ne ?_ (by decide)); first | assumption | exact it_eq | with_unfolding_all rfl)) ?_)))))
          exact hQ _ _ (K (.oct ks) (by unfold readVal; rw [if_neg q1, if_neg q2, if_neg q3, q4, q5, q6, q7, if_neg (by simp only [Bool.and_true, Bool.true_and, Bool.false_and, Bool.and_false, Bool.or_false, Bool.false_or, Bool.true_or, Bool.or_true, Bool.false_eq_true, not_false_eq_true])]) _ _ _ _ (.oct _ hk) (S.done rfl))
      · with_reducible refine it_f (isTrue_or_nil (br_f (x_nilN (x_ret (x_loc (by assumption) (by ((repeat refine it_ne ?_ (by decide)); first | assumption | exact it_eq | with_unfolding_all rfl)) ?_)))))
        exact hQ _ _ (K (.oct ks) (by unfold readVal; rw [if_neg q1, if_neg q2, if_neg q3, q4, q5, q6, if_neg (by simp only [Bool.and_true, Bool.true_and, Bool.false_and, Bool.and_false, Bool.or_false, Bool.false_or, Bool.true_or, Bool.or_true, Bool.false_eq_true, not_false_eq_true])]) _ _ _ _ (.oct _ hk) (S.done rfl))
  · (with_reducible refine it_f (isTrue_or (isTrue_and (wpAny_isTrue_Compare1 (x_loc (by assumption) (by ((repeat refine it_ne ?_ (by decide)); first | assumption | exact it_eq | with_unfolding_all rfl)) ?_)))); with_reducible refine i_str (fun _ _ => c_eqS (wpAny_truthy_bool ?_)))
    refine it_c (fun q6 => ?_) (fun q6 => ?_)
    · (with_reducible refine isTrue_and (wpAny_isTrue_Compare1 (x_call (x_blt S (b_len S.g) (x_cwB (x_arg (x_loc (by assumption) (by ((repeat refine it_ne ?_ (by decide)); first | assumption | exact it_eq | with_unfolding_all rfl)) ?_)))))); with_reducible refine x_argN ?_)
      refine k_len hk (by (first | lia | omega)) (fun _ _ => ?_)
      with_reducible refine x_glob S (g_MOST_ID S.g) (c_gt (wpAny_truthy_bool ?_))
      refine it_c (fun q7 => ?_) (fun q7 => ?_)
      · (with_reducible refine isTrue_and_nil (it_t (br_t (x_expr (x_call (x_glob S (g_refuse_params S.g) (x_cw (K := hd.heap_1 c.w.params) (by with_unfolding_all rfl) (x_arg (wpAny_BinOp (x_loc (by assumption) (by ((repeat refine it_ne ?_ (by decide)); first | assumption | exact it_eq | with_unfolding_all rfl)) ?_))))))))); with_reducible refine i_str (fun _ _ => ?_))
        with_reducible refine i_cat (fun _ _ => ?_) (cat_len hn (by decide)).1
        with_reducible refine x_argN (x_in S ?_)
        refine spec_refuse (n := n + 2) (cat_len hn (by decide)).2 (Cx.le (S.cx C2) (by exact Nat.le_refl _)) S.g (.inl rfl) (fun e h t X x => ?_)
        exact hE _ _ (x_out S rfl rfl C2.fr X (fly_h rfl x) (fun b q => (nomatch q)) (fun h4 X4 x4 => KE (by unfold readVal; rw [if_neg q1, if_neg q2, if_neg q3, q4, q6, q7, if_pos (by simp only [Bool.and_true, Bool.true_and, Bool.false_and, Bool.and_false, Bool.or_false, Bool.false_or, Bool.true_or, Bool.or_true])]) e h4 _ X4 x4))
      · with_reducible refine it_f (isTrue_or_nil (br_f (x_nilN (x_ret (x_loc (by assumption) (by ((repeat refine it_ne ?_ (by decide)); first | assumption | exact it_eq | with_unfolding_all rfl)) ?_)))))
        exact hQ _ _ (K (.oct ks) (by unfold readVal; rw [if_neg q1, if_neg q2, if_neg q3, q4, q6, q7, if_neg (by simp only [Bool.and_true, Bool.true_and, Bool.false_and, Bool.and_false, Bool.or_false, Bool.false_or, Bool.true_or, Bool.or_true, Bool.false_eq_true, not_false_eq_true])]) _ _ _ _ (.oct _ hk) (S.done rfl))
    · with_reducible refine it_f (isTrue_or_nil (br_f (x_nilN (x_ret (x_loc (by assumption) (by ((repeat refine it_ne ?_ (by decide)); first | assumption | exact it_eq | with_unfolding_all rfl)) ?_)))))
      exact hQ _ _ (K (.oct ks) (by unfold readVal; rw [if_neg q1, if_neg q2, if_neg q3, q4, q6, if_neg (by simp only [Bool.and_true, Bool.true_and, Bool.false_and, Bool.and_false, Bool.or_false, Bool.false_or, Bool.true_or, Bool.or_true, Bool.false_eq_true, not_false_eq_true])]) _ _ _ _ (.oct _ hk) (S.done rfl))


-- F13
theorem x_catchF {C : Addr} {nm q : Str} {N : Addr} {bs : List Value} {sn : List Str} {sub : List Value} {ab : Bool} {col : Option Bool} {dd : Option Addr} {k0 k1 k2 k3 k5 : Option Value} {newId : String}
    {k : Option Int} {e : Addr} {fl : Value} {tx : Expr} {b₀ : Stmt} {suite : List Stmt} {pos : Pos} {Q : Flow → Shared → Prop} (S : St c outer D h0 L m led h) (hf : env.frame = some L) (hkf : env.scope.kind = .function) {h1 : Heap} (Cc : Cx c n A (env :: outer) h1 hv)
    (dD : ∀ b ∈ D, b ∉ fsOf outer)
    (hC : ∀ g, G c g → g.get? C = some (excClassObj nm q C N bs [.type "Exception", .type "BaseException", .type "object"] true sn sub ab col dd k0 k1 k2 k3 k5 newId))
    (X : Fly h C k e fl h') (kp : Kp h (L :: fsOf outer) h h')
    (ht : ∀ h2, St c outer D h0 L m led h2 → ∀ (Q : Value → Shared → Prop) E, Q (.ref C) (Mk s h2 t) → wpAny (model pw c.w) (A.mark (some (.ref e))) (eval tx env) Q E (Mk s h2 t))
    (H : ∀ h2, St c outer D h0 L m led h2 → Fly h C k e .none h2 →
      wpAny (model pw c.w) (A.mark (some (.ref e))) (execs (b₀ :: suite) env) Q (notedBy (model pw c.w) (A.mark (some (.ref e))) env (cameBackBy (model pw c.w) A env E)) (Mk s h2 t)) :
    wpAny (model pw c.w) A (noteFrame (.ref e) env) (fun _ s₂ => wpAny (model pw c.w) A (setFlight (.ref e) none) (fun _ s₃ => wpAny (model pw c.w) A (handleBy (.ref e) env [.ExceptHandler (some tx) none (b₀ :: suite) pos]) Q E s₃) E s₂) E (Mk s h' t) := by
  have fs := fs_cons (outer := outer) hf
  have fok := S.fok hf hkf
  have fl : ∀ b ∈ fsOf (env :: outer), h.get? b ≠ none := fun b hb => by
    obtain ⟨_, o, _, _, e, _⟩ := fok.mem b hb
    rw [e]; exact fun q => nomatch q
  refine x_note (c := c) X Cc.fr (fok.kp (fs ▸ kp)) fl (kp.lv (Lv.refl _)) hf fun h2 X2 k2 => ?_
  refine x_fly X2 (.inl (rawInt_ne _)) fun h3 X3 k3 => ?_
  have kp3 : Kp h (L :: fsOf outer) h h3 := (kp.trans (fs ▸ k2)).trans (k3.mono (Lv.refl _) fun b q => nomatch q)
  have S3 := S.kp kp3 dD
  obtain ⟨ge, oe, vs, he, hc, hd, hsz, hctx, htr, hcd⟩ := id X3
  refine wpAny_handleBy_cons (codeAny_handlers_test (ht h3 S3 _ _ ?_)) (by intro q; cases q)
  refine wpAny_excMatches_sub_self (h := h3) (hC h3 S3.g) he hc (by simp) ?_
  refine codeAny_handlers_suite ?_
  show wpAny _ _ _ _ _ (Mk s h3 t)
  refine x_fly X3 (.inr rfl) fun h4 X4 k4 => ?_
  exact H h4 (S.kp (kp3.trans (k4.mono (Lv.refl _) fun b q => nomatch q)) dD) X4
/-- how a while loop's turn ends -/
noncomputable def WTurn (c : Ct) (outer : List Env) (D : List Addr) (h0 : Heap) (L : Addr) (J : Nat → (Str → Option Value) → Led → Prop) (s : Shared) (n : Nat) (f : Flow) (s₃ : Shared) : Prop :=
  f = .next ∧ ∃ k m led h t, k < n ∧ s₃ = Mk s h t ∧ St c outer D h0 L m led h ∧ J k m led
theorem x_while {test : Expr} {body : List Stmt} {pos : Pos} {rest : List Stmt} {Q : Flow → Shared → Prop} (J : Nat → (Str → Option Value) → Led → Prop) (k₀ : Nat)
    (S : St c outer D h0 L m led h) (hJ : J k₀ m led)
    (turn : ∀ k m led h t, St c outer D h0 L m led h → J k m led → wpAny (model p w) A (isTrue test env (eval test env)) (fun b s₂ =>
      (b = true → wpAny (model p w) A (execs body env) (WTurn c outer D h0 L J s k) (EL (model p w) A env E) s₂) ∧ (b = false → wpAny (model p w) A (execs rest env) Q E s₂)) (EL (model p w) A env E) (Mk s h t)) :
    wpAny (model p w) A (execs (.While test body [] pos :: rest) env) Q E (Mk s h t) := by
  refine x_cons (wpAny_While (codeAny_whileLoop (fun n s' => ∃ m led h t, s' = Mk s h t ∧ St c outer D h0 L m led h ∧ J n m led) (fun n s' hI => ?_) k₀ ⟨m, led, h, t, rfl, S, hJ⟩))
  obtain ⟨m, led, h, t, rfl, S, hJ⟩ := hI
  refine wpAny_mono (turn n m led h t S hJ) (fun b s₂ z => ?_) fun _ _ z => z
  cases b with
  | false => exact x_nil (z.2 rfl)
  | true =>
    simp only [if_true]
    refine wpAny_mono (z.1 rfl) (fun f s₃ z => ?_) fun _ _ z => z
    obtain ⟨rfl, k, m, led, h, t, hk, rfl, S, hJ⟩ := z
    exact ⟨k, hk, m, led, h, t, rfl, S, hJ⟩
/-- a plain list -/
noncomputable def LN (xs : List Value) : Kd := fun o => o.cls = .type "list" ∧ o.dict = none ∧ ∃ n, o.data = .seq xs.toArray n
theorem At.ln {xs : List Value} (x : At h a (LN xs)) : At h a (Lst xs) := let ⟨o, e, c, _, n, d⟩ := x; ⟨o, e, c, n, d⟩
theorem At.pl {xs : List Value} (x : At h a (LN xs)) : PlainL h a xs.toArray := let ⟨o, e, c, dn, n, d⟩ := x; ⟨o, n, e, c, dn, d⟩
theorem mk_listN {vs : List Value} (S : St c outer D h0 L m led h) (hz : vs.length ≤ 100) (H : ∀ a h', h0.get? a = none → St c outer D h0 L m ((a, LN vs) :: led) h' → (∀ b o, h.get? b = some o → h'.get? b = some o) → Q (.ref a) (Mk s h' t)) : LQ Q vs (Mk s h t) :=
  ⟨by rw [sizeLine_eq]; (first | lia | omega), H _ _ (S.old (new_size h)) (S.push _ _ ⟨rfl, rfl, _, rfl⟩) fun b o e => Heap.get?_push_of_some _ e⟩
theorem m_append {xs : List Value} {pl : Sem Bool} {QM : Value × List Value → Shared → Prop} (ha : At h a (LN xs)) (H : QM (.builtin "list.append", [.ref a]) (Mk s h t)) : wpAny M A (getMethod (.ref a) (Str.ofString "append") pl) QM E (Mk s h t) := by
  obtain ⟨o, e, hc, hn, _⟩ := ha
  exact Calls.getMethod_list_append (s := Mk s h t) e hc hn H
theorem k_append {xs : List Value} {x : Value} (S : St c outer D h0 L m ((a, LN xs) :: led) h) (hz : xs.length ≤ 16777216) (H : ∀ h', St c outer D h0 L m ((a, LN (xs ++ [x])) :: led) h' → Q .none (Mk s h' t)) :
    wpAny (model p w) A (call (.builtin "list.append") [.ref a, x]) Q E (Mk s h t) :=
  list_append_plainL (s := Mk s h t) S.head.pl (fun h' z sb => H h' (S.upd sb (let ⟨o, n, e, c, dn, d⟩ := z; ⟨o, e, c, dn, n, by simpa using d⟩))) (by rw [sizeLine_eq]; simpa using hz)
/-- a pair's tuple, and those of a list of pairs -/
noncomputable def PK (q : Int × List Int) : Kd := fun o => ∃ u b w, Tup [.int q.1 u, .bytes b w] o ∧ KBw.bInts b = q.2
noncomputable def PLd (Ts : List Addr) (ps : List (Int × List Int)) : Led := List.zipWith (fun T q => (T, PK q)) Ts ps
theorem PLd_snoc {Ts : List Addr} {ps : List (Int × List Int)} (e : Ts.length = ps.length) (T : Addr) (q : Int × List Int) : PLd (Ts ++ [T]) (ps ++ [q]) = PLd Ts ps ++ [(T, PK q)] := by
  unfold PLd; rw [List.zipWith_append e]; rfl
theorem PLd_keys {Ts : List Addr} : ∀ {ps : List (Int × List Int)}, Ts.length = ps.length → (PLd Ts ps).map (·.1) = Ts := by
  induction Ts with
  | nil => intro ps _; rfl
  | cons T Ts ih =>
    intro ps e
    cases ps with
    | nil => cases e
    | cons q ps => exact congrArg (T :: ·) (ih (Nat.succ.inj e))
/-- what read_pairs answers -/
noncomputable def pairsF (ks : List Int) : Nat → Int → Option (List (Int × List Int))
  | 0, _ => some []
  | n + 1, at_ => if (ks.length : Int) - at_ > 0 then
      match gvar ks at_ with
      | none => none
      | some (k, e) => match gvar ks e with
        | none => none
        | some (l, e2) => if e2 + l ≤ ks.length then (pairsF ks n (e2 + l)).map ((k, (ks.drop e2.toNat).take l.toNat) :: ·) else none
    else some []
noncomputable def rdPairs (ks : List Int) : Option (List (Int × List Int)) := pairsF ks ks.length 0
theorem gvar_in {ks : List Int} {k v e : Int} (q : gvar ks k = some (v, e)) : 0 ≤ v ∧ k < e := by
  unfold gvar at q
  split at q
  · cases q
  split at q
  · cases q
  cases q
  refine ⟨Int.emod_nonneg _ (by have : (0 : Int) < 2 ^ (8 * gsz (ks.getD k.toNat 0) - 2).toNat := Int.pow_pos (by decide); (first | lia | omega)), ?_⟩
  rcases gsz_is (ks.getD k.toNat 0) with z | z | z | z <;> rw [z] <;> (first | lia | omega)
noncomputable def Cau2 (c : Ct) (outer : List Env) (D : List Addr) (h0 : Heap) (L : Addr) (s : Shared) (R : Prop) (e : Value) (s₁ : Shared) : Prop :=
  ∃ x fl m h1 h2 t, e = .ref x ∧ s₁ = Mk s h2 t ∧ St c outer D h0 L m [] h1 ∧ Fly h1 58 none x fl h2 ∧ Kp h1 (L :: fsOf outer) h1 h2 ∧ R


-- F14
theorem St.weak2 {a b : Addr} {k l l' : Kd} (S : St c outer D h0 L m ((a, k) :: (b, l) :: led) h) (hl : ∀ o, l o → l' o) : St c outer D h0 L m ((a, k) :: (b, l') :: led) h :=
  S.weak rfl fun p hp => by
    rcases List.mem_cons.mp hp with rfl | hp
    · exact S.head
    · rcases List.mem_cons.mp hp with rfl | hp
      · obtain ⟨o, e, x⟩ := S.second; exact ⟨o, e, hl o x⟩
      · exact S.lat _ (List.mem_cons_of_mem _ (List.mem_cons_of_mem _ hp))
theorem PLd_push {F T : Addr} {Ts : List Addr} {acc : List (Int × List Int)} {q : Int × List Int} {p1 p2 : Addr × Kd} (eT : Ts.length = acc.length)
    (S : St c outer D h0 L m ((F, LN (Ts.map .ref ++ [.ref T])) :: (T, PK q) :: p1 :: p2 :: PLd Ts acc) h) : St c outer D h0 L m (p1 :: p2 :: (F, LN ((Ts ++ [T]).map .ref)) :: PLd (Ts ++ [T]) (acc ++ [q])) h := by
  rw [PLd_snoc eT, List.map_append]
  exact S.perm ((List.Perm.append_left [p1, p2, (F, LN (Ts.map .ref ++ [.ref T]))] List.perm_append_comm).trans (List.Perm.append_right (PLd Ts acc) (List.perm_append_comm (l₁ := [p1, p2]) (l₂ := [(F, LN (Ts.map .ref ++ [.ref T])), (T, PK q)]))))
set_option maxHeartbeats 8000000 in
theorem spec_read_pairs {hB : Heap} {b : Array UInt8} {ks : List Int} {u2 : Tok} (hk : KBw.bInts b = ks) (hf : ks.length ≤ 1000000) (C : Cx c (n + 6) A outer hB none) (g : G c hB)
    (K : ∀ ps, rdPairs ks = some ps → ∀ F Ts h' t', Ts.length = ps.length → Ret c (fsOf outer) hB [] ((F, LN (Ts.map .ref)) :: PLd Ts ps) h' → Q (.ref F) (Mk s h' t'))
    (KE : rdPairs ks = none → ∀ e h' t', Fly hB 38 (some 8) e .none h' → Ext c [] (fsOf outer) hB h' → E (.ref e) (Mk s h' t')) :
    wpAny (model pw c.w) A (call (.ref 252) [.bytes b u2]) Q E (Mk s hB t) := by
  refine enterE (binds := [(Str.ofString "data", .bytes b u2)]) C g pre_nil (by rfl) (by rfl) rfl (by rfl) (by decide) (fun L h2 t2 m QF EF A' hm hQ hN hE S C2 => ?_)
  have b0 := (hm (Str.ofString "data")).trans (b := some (Value.bytes b u2)) (by rfl)
  clear hm
  refine x_asgSw [Str.ofString "reader", Str.ofString "found"] ?_
  (with_reducible refine x_tupQ (x_arg (x_call (x_glob S (g_Reader S.g) (x_cw (K := hd.heap_1 c.w.params) (by with_unfolding_all rfl) (x_arg (x_loc (by assumption) (by ((repeat refine it_ne ?_ (by decide)); first | assumption | exact it_eq | with_unfolding_all rfl)) ?_)))))); with_reducible refine x_argN (x_in S ?_))
  refine spec_reader (Cx.le (n := n + 5) (k := n + 2) (S.cx C2) (by exact Nat.le_add_right _ 3)) S.g (fun x d h3 t3 ne R => ?_)
  have S := S.ret (pre := []) R rfl
  with_reducible refine x_arg (x_lstQ (x_argN ?_))
  refine mk_listN S (Nat.le_of_ble_eq_true rfl) (fun F h F0 S _ => ?_)
  with_reducible refine x_argN ?_
  refine mk_tupQ S (Nat.le_of_ble_eq_true rfl) (fun T h T0 S _ => ?_)
  refine x_unpI S S.head C2.hd rfl (fun h S => ?_)
  refine b_name S (fun h t S => ?_)
  refine b_name S (fun h t S => ?_)
  refine assignInOrder_nil ?_
  have S := S.drop 1
  refine x_try' (Cau2 c outer [] hB L s (rdPairs ks = none)) (fun e s₁ z => ?_) ?_
  · obtain ⟨x, fl, m, h1, h2, t, rfl, rfl, S, X, kp, q⟩ := z
    refine x_catchF S rfl rfl C2 (fun b q => (nomatch q)) (fun g hg => cls_short hg) X kp (fun h2 S2 Q E H => ?_) (fun h2 S2 X2 => ?_)
    · exact x_glob S2 (g_Short S2.g) H
    · refine x_expr ?_
      with_reducible refine x_call ?_
      with_reducible refine x_glob S2 (g_refuse_params S2.g) ?_
      refine x_cw (K := hd.heap_1 c.w.params) (by rfl) ?_
      with_reducible refine x_arg (i_str (fun _ _ => x_argN ?_))
      refine ⟨S2.g.X, ?_⟩
      refine spec_refuse (by decide) ((Cx.le (n := n + 5) (k := n + 3) (S2.cx C2) (by exact Nat.le_add_right _ 2)).mark _) S2.g (Hq.fly X2) (fun e h t X x => ?_)
      refine x_again S2 rfl rfl C2 X (fly_h rfl x) (fun h5 X5 k5 => ?_)
      exact hE _ _ (x_out S2 rfl rfl C2.fr X5 k5 (fun b q => (nomatch q)) (fun h4 X4 x4 => KE q e h4 _ X4 x4))
  have S : St c outer [] hB L _ ((d, NsR b 0) :: (x, RdK d) :: (F, LN (([] : List Addr).map .ref)) :: PLd [] []) h := S.perm (by
    show List.Perm [(d, NsR b 0), (x, RdK d), (F, LN [])] [(F, LN []), (d, NsR b 0), (x, RdK d)]
    exact (List.Perm.trans (List.Perm.swap _ _ _) (List.Perm.cons _ (List.Perm.swap _ _ _))).symm.trans (List.Perm.refl _) |>.symm.symm)
  refine x_while (fun k m led => ∃ (at_ : Int) (Ts : List Addr) (acc : List (Int × List Int)), led = (d, NsR b at_) :: (x, RdK d) :: (F, LN (Ts.map .ref)) :: PLd Ts acc ∧ Ts.length = acc.length ∧ 0 ≤ at_ ∧ m (Str.ofString "reader") = some (.ref x) ∧ m (Str.ofString "found") = some (.ref F) ∧
    (ks.length : Int) - at_ ≤ k ∧ acc.length + k ≤ ks.length ∧ rdPairs ks = (pairsF ks k at_).map (acc ++ ·)) ks.length S ⟨0, [], [], rfl, rfl, Int.le_refl 0, by ((repeat refine it_ne ?_ (by decide)); first | assumption | exact it_eq | with_unfolding_all rfl), by ((repeat refine it_ne ?_ (by decide)); first | assumption | exact it_eq | with_unfolding_all rfl), by (first | lia | omega), by simp, by simp [rdPairs]⟩ (fun k m led h t S hJ => ?_)
  obtain ⟨at_, Ts, acc, rfl, eT, a0, m1, m2, rem, tot, hrd⟩ := hJ
  with_reducible refine wpAny_isTrue_Compare1 ?_
  refine x_callA ?_
  with_reducible refine x_loc (by assumption) (by ((repeat refine it_ne ?_ (by decide)); first | assumption | exact it_eq | with_unfolding_all rfl)) ?_
  refine rd_meth S.g S.second S.head ne (.inl ⟨rfl, rfl⟩) ?_
  refine x_cw01 (K := hd.heap_1 c.w.params) S.g.X (by rfl) ?_
  refine spec_left hk hf (Cx.le (n := n + 5) (k := n + 1) (S.cx C2) (by exact Nat.le_add_right _ 4)) S.g (S.toPre (rest := (F, LN (Ts.map .ref)) :: PLd Ts acc)) (fun u h t R => ?_)
  have S := S.ret (pre := [(d, NsR b at_), (x, RdK d)]) (rest := (F, LN (Ts.map .ref)) :: PLd Ts acc) R rfl
  have S : St c outer [] hB L m ((d, NsR b at_) :: (x, RdK d) :: (F, LN (List.map Value.ref Ts)) :: PLd Ts acc) h := S
  (with_reducible refine i_int (fun _ _ => c_gt (wpAny_truthy_bool (br_c (fun q => ?_) (fun q => ?_)))); with_reducible refine x_asg ?_)
  · have q' : (ks.length : Int) - at_ > 0 := by simpa using q
    obtain ⟨k, rfl⟩ : ∃ j, k = j + 1 := ⟨k - 1, by (first | lia | omega)⟩
    have hrd' := hrd
    unfold pairsF at hrd'
    rw [if_pos q'] at hrd'
    refine x_callA ?_
    with_reducible refine x_loc (by assumption) (by ((repeat refine it_ne ?_ (by decide)); first | assumption | exact it_eq | with_unfolding_all rfl)) ?_
    refine rd_meth S.g S.second S.head ne (.inr (.inr (.inr ⟨rfl, rfl⟩))) ?_
    refine x_cw01 (K := hd.heap_1 c.w.params) S.g.X (by rfl) ?_
    refine spec_varint hk hf a0 (Cx.le (n := n + 5) (k := n + 5) (S.cx C2) (by exact Nat.le_refl _)) S.g (S.toPre (rest := (F, LN (Ts.map .ref)) :: PLd Ts acc)) (fun v e q1 u h t R => ?_) (fun q1 e h3 t3 X x1 => ?_)
    rotate_left
    · exact x_againL S rfl rfl C2 X (fly_h rfl x1) (fun h5 X5 k5 => ⟨e, _, _, _, h5, _, rfl, rfl, S.bare, X5, k5, by rw [hrd', q1]; rfl⟩)
    obtain ⟨v0, ke⟩ := gvar_in q1
    have S := S.ret (pre := [(d, NsR b at_), (x, RdK d)]) (rest := (F, LN (Ts.map .ref)) :: PLd Ts acc) R rfl
    have S : St c outer [] hB L m ((d, NsR b e) :: (x, RdK d) :: (F, LN (List.map Value.ref Ts)) :: PLd Ts acc) h := S
    with_reducible refine x_store S (fun h t S => x_expr ?_)
    refine x_callA ?_
    with_reducible refine x_loc (by assumption) (by ((repeat refine it_ne ?_ (by decide)); first | assumption | exact it_eq | with_unfolding_all rfl)) ?_
    refine m_append (S.get 2 rfl) ?_
    with_reducible refine x_cwB1 ?_
    (with_reducible refine x_arg (x_tupQ (x_arg (x_loc (by assumption) (by ((repeat refine it_ne ?_ (by decide)); first | assumption | exact it_eq | with_unfolding_all rfl)) ?_))); with_reducible refine x_arg ?_)
    refine x_callA ?_
    with_reducible refine x_loc (by assumption) (by ((repeat refine it_ne ?_ (by decide)); first | assumption | exact it_eq | with_unfolding_all rfl)) ?_
    refine rd_meth S.g S.second S.head ne (.inr (.inl ⟨rfl, rfl⟩)) ?_
    refine x_cw1 (K := hd.heap_1 c.w.params) (by rfl) ?_
    with_reducible refine x_arg ?_
    refine x_callA ?_
    with_reducible refine x_loc (by assumption) (by ((repeat refine it_ne ?_ (by decide)); first | assumption | exact it_eq | with_unfolding_all rfl)) ?_
    refine rd_meth S.g S.second S.head ne (.inr (.inr (.inr ⟨rfl, rfl⟩))) ?_
    refine x_cw01 (K := hd.heap_1 c.w.params) S.g.X (by rfl) ?_
    refine spec_varint hk hf (by (first | lia | omega)) (Cx.le (n := n + 5) (k := n + 5) (S.cx C2) (by exact Nat.le_refl _)) S.g (S.toPre (rest := (F, LN (Ts.map .ref)) :: PLd Ts acc)) (fun v2 e2 q2 u h t R => ?_) (fun q2 e' h3 t3 X x1 => ?_)
    rotate_left
    · exact x_againL S rfl rfl C2 X (fly_h rfl x1) (fun h5 X5 k5 => ⟨e', _, _, _, h5, _, rfl, rfl, S.bare, X5, k5, by rw [hrd', q1]; dsimp only; rw [q2]; rfl⟩)
    obtain ⟨v20, ke2⟩ := gvar_in q2
    have S := S.ret (pre := [(d, NsR b e), (x, RdK d)]) (rest := (F, LN (Ts.map .ref)) :: PLd Ts acc) R rfl
    have S : St c outer [] hB L _ ((d, NsR b e2) :: (x, RdK d) :: (F, LN (List.map Value.ref Ts)) :: PLd Ts acc) h := S
    with_reducible refine x_argN (x_in S ?_)
    refine spec_take hk hf (by (first | lia | omega)) v20 (Cx.le (n := n + 5) (k := n + 3) (S.cx C2) (by exact Nat.le_add_right _ 2)) S.g (S.toPre (rest := (F, LN (Ts.map .ref)) :: PLd Ts acc)) (fun q3 b2 u h t hb2 R => ?_) (fun q3 e' h3 t3 X x1 => ?_)
    rotate_left
    · exact x_againL S rfl rfl C2 X (fly_h rfl x1) (fun h5 X5 k5 => ⟨e', _, _, _, h5, _, rfl, rfl, S.bare, X5, k5, by rw [hrd', q1]; dsimp only; rw [q2]; dsimp only; rw [if_neg (by (first | lia | omega))]; rfl⟩)
    have S := S.ret (pre := [(d, NsR b e2), (x, RdK d)]) (rest := (F, LN (Ts.map .ref)) :: PLd Ts acc) R rfl
    have S : St c outer [] hB L _ ((d, NsR b (e2 + v2)) :: (x, RdK d) :: (F, LN (List.map Value.ref Ts)) :: PLd Ts acc) h := S
    with_reducible refine x_argN ?_
    refine mk_tupQ S (Nat.le_of_ble_eq_true rfl) (fun T h T0 S _ => ?_)
    with_reducible refine x_argN ?_
    have S := S.front 3 rfl
    have S : St c outer [] hB L _ ((F, LN (Ts.map .ref)) :: (T, Tup _) :: (d, NsR b (e2 + v2)) :: (x, RdK d) :: PLd Ts acc) h := S
    refine k_append S (by rw [List.length_map]; (first | lia | omega)) (fun h S => ?_)
    dsimp only
    refine x_nil ?_
    have S := S.weak2 (l' := PK (v, (ks.drop e2.toNat).take v2.toNat)) (fun o z => ⟨_, _, _, z, hb2⟩)
    have S := PLd_push eT S
    refine ⟨rfl, k, _, _, h, _, Nat.lt_succ_self k, rfl, S, e2 + v2, Ts ++ [T], acc ++ [(v, (ks.drop e2.toNat).take v2.toNat)], rfl, by simp [eT], by (first | lia | omega), by ((repeat refine it_ne ?_ (by decide)); first | assumption | exact it_eq | with_unfolding_all rfl), by ((repeat refine it_ne ?_ (by decide)); first | assumption | exact it_eq | with_unfolding_all rfl), by (first | lia | omega), by rw [List.length_append, List.length_singleton]; (first | lia | omega), ?_⟩
    rw [hrd', q1]
    dsimp only
    rw [q2]
    dsimp only
    rw [if_pos q3, Option.map_map]
    congr 1
    funext z
    simp
  · skip
    refine x_nil ?_
    dsimp only
    with_reducible refine x_ret (x_loc (by assumption) (by ((repeat refine it_ne ?_ (by decide)); first | assumption | exact it_eq | with_unfolding_all rfl)) ?_)
    have q' : ¬ ((ks.length : Int) - at_ > 0) := by simpa using q
    have S := S.drop 2
    refine hQ _ _ (K acc ?_ F Ts _ _ eT (S.done (post := []) rfl))
    rw [hrd]
    cases k with
    | zero => simp [pairsF]
    | succ k => unfold pairsF; rw [if_neg q']; simp


-- F15
theorem strIs (w : World) (x : Str) (u : Tok) : (strKind pw w).is x (.str x u) = true := by simp [PySem.strKind, Value.isStrOf]
theorem intIs (w : World) (x : Int) (u : Tok) : (intKind pw w).is x (.int x u) = true := by simp [PySem.intKind, Value.isInt]
theorem d_inS {kvs : List (Str × Value)} {x : Str} {u : Tok} (ha : At h a (Dct c kvs)) (ns : (a == sysModules) = false) (H : ∀ t', Q (.bool (valueAt kvs x).isSome) (Mk s h t')) :
    wpAny (model pw c.w) A (compareOp .In (.str x u) (.ref a)) Q E (Mk s h t) := wpAny_in_of (s := Mk s h t) (strIs c.w x u) ns ha.dct.mapOf (H _)
theorem d_inI {kvs : List (Int × Value)} {x : Int} {u : Tok} (ha : At h a (DctI c kvs)) (ns : (a == sysModules) = false) (H : ∀ t', Q (.bool (valueAt kvs x).isSome) (Mk s h t')) :
    wpAny (model pw c.w) A (compareOp .In (.int x u) (.ref a)) Q E (Mk s h t) := wpAny_in_of (s := Mk s h t) (intIs c.w x u) ns ha.dctI.mapOf (H _)
theorem d_item {kvs : List (Str × Value)} {x : Str} {u : Tok} {v : Value} {value slice : Expr} (ha : At h a (Dct c kvs)) (hv : valueAt kvs x = some v) (H : ∀ t', Q v (Mk s h t'))
    (hs : subscripted slice false (.ref a) (.str x u) = operate [.ref a, .str x u] (getItem (.ref a) (.str x u)) := by with_unfolding_all rfl) (hg : ∀ r, letTemporaryGo value (.ref a) r = pure () := by intro _; with_unfolding_all rfl) :
    wpAny (model pw c.w) A (subscriptTail value slice (.ref a) (.str x u)) Q E (Mk s h t) :=
  subscriptTail_builtin (s := Mk s h t) ha.dct.typeIs slot_dict_getitem.lookup (wpAny_getItem_of (s := Mk s h t) (strIs c.w x u) ha.dct.mapOf hv (H _)) hs hg
theorem d_setS {kvs : List (Str × Value)} {x : Str} {u : Tok} {v : Value} {QU : Unit → Shared → Prop} (S : St c outer D h0 L m ((a, Dct c kvs) :: led) h) (hz : kvs.length ≤ 10000)
    (H : ∀ h' t', St c outer D h0 L m ((a, Dct c (stored kvs x v)) :: led) h' → QU () (Mk s h' t')) : wpAny (model pw c.w) A (setItem (.ref a) (.str x u) v) QU E (Mk s h t) :=
  wpAny_setItem_pairs (s := Mk s h t) (strIs c.w x u) S.head.dct (fun h' d sb => H h' _ (S.upd sb (At.ofDct d))) (by rw [sizeLine_eq]; (first | lia | omega))
theorem d_setI {kvs : List (Int × Value)} {x : Int} {u : Tok} {v : Value} {QU : Unit → Shared → Prop} (S : St c outer D h0 L m ((a, DctI c kvs) :: led) h) (hz : kvs.length ≤ 16777216)
    (H : ∀ h' t', St c outer D h0 L m ((a, DctI c (stored kvs x v)) :: led) h' → QU () (Mk s h' t')) : wpAny (model pw c.w) A (setItem (.ref a) (.int x u) v) QU E (Mk s h t) :=
  wpAny_setItem_pairs (s := Mk s h t) (intIs c.w x u) S.head.dctI (fun h' d sb => H h' _ (S.upd sb (At.ofDctI d))) (by rw [sizeLine_eq]; (first | lia | omega))
theorem m_dict {name : Str} {id : String} {pl : Sem Bool} {QM : Value × List Value → Shared → Prop} {kvs : List (Str × Value)} (ha : At h a (Dct c kvs)) (slot : Slot "dict" name id) (hty : typeOf (.builtin id) = pure (.type "method_descriptor"))
    (H : QM (.builtin id, [.ref a]) (Mk s h t)) : wpAny (model pw c.w) A (getMethod (.ref a) name pl) QM E (Mk s h t) :=
  getMethod_builtin (s := Mk s h t) ha.dct.typeIs PySem.F.plainAttrs_dict slot hty ha.dct.mapOf.noDict H
theorem d_get1 {kvs : List (Str × Value)} {x : Str} {u : Tok} (ha : At h a (Dct c kvs)) (ns : (a == sysModules) = false) (H : ∀ t', Q ((valueAt kvs x).getD .none) (Mk s h t')) :
    wpAny (model pw c.w) A (call (.builtin "dict.get") [.ref a, .str x u]) Q E (Mk s h t) :=
  call_meetsIn (s := Mk s h t) PySem.F.slot_dict_get ha.dct.typeIs PySem.F.entry_dict_get (PySem.F.args_dict_get_2 _ _) (meets_dict_get (strKind pw c.w) a (strIs c.w x u) ns) ⟨_, ha.dct.mapOf, H _⟩
theorem d_get2 {kvs : List (Str × Value)} {x : Str} {u : Tok} {d : Value} (ha : At h a (Dct c kvs)) (ns : (a == sysModules) = false) (H : ∀ t', Q ((valueAt kvs x).getD d) (Mk s h t')) :
    wpAny (model pw c.w) A (call (.builtin "dict.get") [.ref a, .str x u, d]) Q E (Mk s h t) :=
  call_meetsIn (s := Mk s h t) PySem.F.slot_dict_get ha.dct.typeIs PySem.F.entry_dict_get (PySem.F.args_dict_get_3 _ _ _) (meets_dict_get_default (strKind pw c.w) a (strIs c.w x u) ns d) ⟨_, ha.dct.mapOf, H _⟩
theorem d_update {b : Addr} {kvs more : List (Str × Value)} (S : St c outer D h0 L m ((a, Dct c kvs) :: led) h) (hb : At h b (Dct c more)) (ne : a ≠ b) (ns : (b == sysModules) = false) (hz : kvs.length + more.length ≤ 10000)
    (H : ∀ h', St c outer D h0 L m ((a, Dct c (merged kvs more)) :: led) h' → Q .none (Mk s h' t)) :
    wpAny (model pw c.w) A (call (.builtin "dict.update") [.ref a, .ref b]) Q E (Mk s h t) :=
  call_meetsIn (s := Mk s h t) PySem.F.slot_dict_update S.head.dct.typeIs PySem.F.entry_dict_update (PySem.F.args_dict_update_2 _ _) (meets_dict_update (strKind pw c.w) a b ne ns)
    ⟨_, _, S.head.dct, hb.dct, by rw [sizeLine_eq]; (first | lia | omega), fun h' d _ sb => H h' (S.upd sb (At.ofDct d))⟩
/-- a new object is none of the system's -/
theorem St.nsys (S : St c outer D h0 L m led h) : (h.objs.size == sysModules) = false := by
  have e : h.get? 351 = _ := S.g.X 351 _ (by rfl)
  have := Heap.lt_size e
  exact beq_false_of_ne (Nat.ne_of_gt (Nat.lt_of_le_of_lt (by decide : 1 ≤ 351) this))
theorem dct_new (h : Heap) : Dct c [] { cls := .type "dict", data := .dict #[] } := by
  obtain ⟨o, e, k⟩ := At.ofDct (c := c) (Heap.DictOf.new (knd := PySem.strKind pw c.w) h)
  rw [Heap.get?_push_size _ rfl] at e
  cases e
  exact k
theorem dctI_new (h : Heap) : DctI c [] { cls := .type "dict", data := .dict #[] } := by
  obtain ⟨o, e, k⟩ := At.ofDctI (c := c) (Heap.DictOf.new (knd := PySem.intKind pw c.w) h)
  rw [Heap.get?_push_size _ rfl] at e
  cases e
  exact k
theorem mk_dict0 {pos : Pos} (S : St c outer D h0 L m led h) (H : ∀ a h', h0.get? a = none → (a == sysModules) = false → St c outer D h0 L m ((a, Dct c []) :: led) h' → (∀ b o, h.get? b = some o → h'.get? b = some o) → Q (.ref a) (Mk s h' t)) :
    wpAny M A (eval (.Dict [] [] pos) env) Q E (Mk s h t) :=
  wpAny_Dict_empty (s := Mk s h t) (H _ _ (S.old (new_size h)) S.nsys (S.push _ _ (dct_new h)) fun b o e => Heap.get?_push_of_some _ e)
theorem mk_dictI0 {pos : Pos} (S : St c outer D h0 L m led h) (H : ∀ a h', h0.get? a = none → (a == sysModules) = false → St c outer D h0 L m ((a, DctI c []) :: led) h' → (∀ b o, h.get? b = some o → h'.get? b = some o) → Q (.ref a) (Mk s h' t)) :
    wpAny M A (eval (.Dict [] [] pos) env) Q E (Mk s h t) :=
  wpAny_Dict_empty (s := Mk s h t) (H _ _ (S.old (new_size h)) S.nsys (S.push _ _ (dctI_new h)) fun b o e => Heap.get?_push_of_some _ e)


-- F16
theorem keys_getTup {xs : Array Value} {k : Nat} {sl : Array (Option Value)} {hp : Heap} {g d : _} {tk : Nat} {os : _} {u : Tok} {QV : Value → Shared → Prop} (hx : hp.get? a = some { cls := .type "tuple", dict := none, data := .seq xs k, slots := sl }) (hA : A.handled = none)
    (H : ∀ h' tk e, Heap.NewExcOf hp h' e "AttributeError" → E (.ref e) ⟨h', g, d, tk, os⟩) : wpAny (model p w) A (getAttrBy (.ref a) (.str (Str.ofString "keys") u) false) QV E ⟨hp, g, d, tk, os⟩ := by
  have hT : ∀ tk', (⟨hp, g, d, tk', os⟩ : Shared).TypeIs (.ref a) "tuple" := fun _ => ⟨_, hx, rfl⟩
  have f1 := sub_AttributeError
  have f3 := F.slot_tuple_getattribute.lookup
  have f4 := F.slot_tuple_getattribute.bind (.ref a)
  have f5 := am_tuple_getattr_none
  unfold getAttrBy
  repeat (any_goals (first | assumption | exact hT _ | ((with_reducible show wpAny _ _ (call (Value.builtin "tuple.__getattribute__") _ _) _ _ _); refine call_meets F.slot_tuple_getattribute (hT _) am_entry_tuple_getattribute (F.args_tuple_getattribute_2 _ _) (meets_getattribute_miss_tuple a xs k sl (Str.ofString "keys") _ (am_miss_of_fast (by decide +kernel)) (by decide +kernel) (by size_fits)) ⟨hx, hA, fun h' tk' e hx' => ?_⟩) | wp_step))
  obtain ⟨t', u', he⟩ := hx'.there
  show wpAny _ _ (getattributeRaised _ _ _ _ _ _ _) _ _ _
  unfold getattributeRaised
  repeat (any_goals (first | assumption | wp_step))
  exact H _ _ _ hx'.of
theorem keys_noneTup {o : Obj} {xs : Array Value} {k : Nat} {QO : Option Value → Shared → Prop} (hx : h.get? a = some o) (hc : o.cls = .type "tuple") (hd : o.dict = none) (hdat : o.data = .seq xs k) (hA : A.handled = none)
    (H : ∀ h' t', (∀ b o, h.get? b = some o → h'.get? b = some o) → QO none (Mk s h' t')) : wpAny (model p w) A (getAttr? (.ref a) "keys") QO E (Mk s h t) := by
  obtain ⟨cc, dct, dat, sl⟩ := o
  simp only at hc hdat hd
  subst hc hdat hd
  unfold getAttr? getAttrBy?
  obtain ⟨h9, g, d, t9, os⟩ := s
  refine wpAny_bind (wpAny_mkText (wpAny_bind (wpAny_attempt (keys_getTup hx hA fun h' tk e x => ?_))))
  dsimp only
  refine wpAny_bind (wpAny_isInstance ?_ sub_AttributeError ?_)
  · obtain ⟨ob, vs, e1, e2, _⟩ := x.there; exact ⟨ob, e1, e2⟩
  · exact wpAny_pure (H h' tk x.keeps)
theorem keys_getLst {xs : Array Value} {k : Nat} {sl : Array (Option Value)} {hp : Heap} {g d : _} {tk : Nat} {os : _} {u : Tok} {QV : Value → Shared → Prop} (hx : hp.get? a = some { cls := .type "list", dict := none, data := .seq xs k, slots := sl }) (hA : A.handled = none)
    (H : ∀ h' tk e, Heap.NewExcOf hp h' e "AttributeError" → E (.ref e) ⟨h', g, d, tk, os⟩) : wpAny (model p w) A (getAttrBy (.ref a) (.str (Str.ofString "keys") u) false) QV E ⟨hp, g, d, tk, os⟩ := by
  have hT : ∀ tk', (⟨hp, g, d, tk', os⟩ : Shared).TypeIs (.ref a) "list" := fun _ => ⟨_, hx, rfl⟩
  have f1 := sub_AttributeError
  have f3 := F.slot_list_getattribute.lookup
  have f4 := F.slot_list_getattribute.bind (.ref a)
  have f5 := am_list_getattr_none
  unfold getAttrBy
  repeat (any_goals (first | assumption | exact hT _ | ((with_reducible show wpAny _ _ (call (Value.builtin "list.__getattribute__") _ _) _ _ _); refine call_meets F.slot_list_getattribute (hT _) am_entry_list_getattribute (F.args_list_getattribute_2 _ _) (meets_getattribute_miss_list a xs k sl (Str.ofString "keys") _ (am_miss_of_fast (by decide +kernel)) (by decide +kernel) (by size_fits)) ⟨hx, hA, fun h' tk' e hx' => ?_⟩) | wp_step))
  obtain ⟨t', u', he⟩ := hx'.there
  show wpAny _ _ (getattributeRaised _ _ _ _ _ _ _) _ _ _
  unfold getattributeRaised
  repeat (any_goals (first | assumption | wp_step))
  exact H _ _ _ hx'.of
theorem keys_noneLst {o : Obj} {xs : Array Value} {k : Nat} {QO : Option Value → Shared → Prop} (hx : h.get? a = some o) (hc : o.cls = .type "list") (hd : o.dict = none) (hdat : o.data = .seq xs k) (hA : A.handled = none)
    (H : ∀ h' t', (∀ b o, h.get? b = some o → h'.get? b = some o) → QO none (Mk s h' t')) : wpAny (model p w) A (getAttr? (.ref a) "keys") QO E (Mk s h t) := by
  obtain ⟨cc, dct, dat, sl⟩ := o
  simp only at hc hdat hd
  subst hc hdat hd
  unfold getAttr? getAttrBy?
  obtain ⟨h9, g, d, t9, os⟩ := s
  refine wpAny_bind (wpAny_mkText (wpAny_bind (wpAny_attempt (keys_getLst hx hA fun h' tk e x => ?_))))
  dsimp only
  refine wpAny_bind (wpAny_isInstance ?_ sub_AttributeError ?_)
  · obtain ⟨ob, vs, e1, e2, _⟩ := x.there; exact ⟨ob, e1, e2⟩
  · exact wpAny_pure (H h' tk x.keeps)


-- F17
theorem kd_entry_loop : entryFor table "dict.update.loop" = some Builtin.«dict.update.loop» := entryFor_of_tree (by kernel_rfl)
theorem kd_plain_loop : plainId "dict.update.loop" = true := by decide +kernel
/-- a pair of a key and a value, as a tuple -/
noncomputable def KV (h : Heap) (v : Value) (q : Str × Value) : Prop := ∃ T u, v = .ref T ∧ At h T (Tup [.str q.1 u, q.2])
/-- the sequence of pairs, tuple or list -/
inductive SeqI (h : Heap) (I a : Addr) (xs : List Value) (i : Nat) : Prop
  | tup (hi : At h I (ItT a i)) (ha : At h a (Tup xs))
  | lst (hi : At h I (ItL a i)) (ha : At h a (Lst xs))
theorem SeqI.next {I : Addr} {xs : List Value} {i : Nat} {x : Value} {QO : Option Value → Shared → Prop} (S : SeqI h I a xs i) (ne : a ≠ I) (hx : xs[i]? = some x)
    (H : ∀ h', SeqI h' I a xs (i + 1) → Heap.SameBut I h h' → QO (some x) (Mk s h' t)) : wpAny (model p w) A (pyNext (.ref I)) QO E (Mk s h t) := by
  cases S with
  | tup hi ha =>
    exact wpAny_pyNext_tuple_item (s := Mk s h t) hi.itT ha.tupl (by simpa using hx) fun h' i' sb => H h' (.tup (let ⟨o, e, c, d⟩ := i'; ⟨o, e, c, d⟩) (let ⟨o, e, r⟩ := ha; ⟨o, (sb.2 a ne).trans e, r⟩)) sb
  | lst hi ha =>
    exact wpAny_pyNext_list_item (s := Mk s h t) hi.itL ha.list (by simpa using hx) fun h' i' sb => H h' (.lst (let ⟨o, e, c, d⟩ := i'; ⟨o, e, c, d⟩) (let ⟨o, e, r⟩ := ha; ⟨o, (sb.2 a ne).trans e, r⟩)) sb
theorem SeqI.done {I : Addr} {xs : List Value} {i : Nat} {QO : Option Value → Shared → Prop} (S : SeqI h I a xs i) (hx : xs[i]? = none) (hh : A.handled = none)
    (H : ∀ h', Heap.ExtBut I h h' → QO none (Mk s h' t)) : wpAny (model p w) A (pyNext (.ref I)) QO E (Mk s h t) := by
  cases S with
  | tup hi ha => exact wpAny_pyNext_tuple_end (s := Mk s h t) hh hi.itT ha.tupl (by simpa using hx) fun h' eb => H h' eb
  | lst hi ha => exact wpAny_pyNext_list_end (s := Mk s h t) hh hi.itL ha.list (by simpa using hx) fun h' eb => H h' eb
theorem SeqI.keep {I : Addr} {xs : List Value} {i : Nat} (S : SeqI h I a xs i) (hk : ∀ b o, b = I ∨ b = a → h.get? b = some o → h'.get? b = some o) : SeqI h' I a xs i := by
  cases S with
  | tup hi ha => exact .tup (let ⟨o, e, r⟩ := hi; ⟨o, hk _ _ (.inl rfl) e, r⟩) (let ⟨o, e, r⟩ := ha; ⟨o, hk _ _ (.inr rfl) e, r⟩)
  | lst hi ha => exact .lst (let ⟨o, e, r⟩ := hi; ⟨o, hk _ _ (.inl rfl) e, r⟩) (let ⟨o, e, r⟩ := ha; ⟨o, hk _ _ (.inr rfl) e, r⟩)
theorem kd_pair {T : Addr} {x y : Value} {QL : List Value → Shared → Prop} (hT : At h T (Tup [x, y])) (H : QL [x, y] (Mk s h t)) : wpAny (model p w) A (Builtin.Dict.pairItems (.ref T)) QL E (Mk s h t) := by
  obtain ⟨o, e, hc, n, hdt⟩ := hT
  unfold Builtin.Dict.pairItems
  refine wpAny_bind (wpAny_typeOf (s := Mk s h t) ⟨o, e, hc⟩ ?_)
  rw [if_pos (by decide)]
  refine wpAny_bind ?_
  unfold seqItems?
  refine wpAny_bind (wpAny_load (s := Mk s h t) e ?_)
  rw [hdt]
  exact wpAny_pure (wpAny_pure H)
theorem stored_len {K : Type} [DecidableEq K] (kvs : List (K × Value)) (k : K) (v : Value) : (stored kvs k v).length ≤ kvs.length + 1 := by
  unfold stored
  split
  · rw [List.length_map]; (first | lia | omega)
  · rw [List.length_append, List.length_singleton]; exact Nat.le_refl _
theorem merged_len {K : Type} [DecidableEq K] : ∀ (more kvs : List (K × Value)), (merged kvs more).length ≤ kvs.length + more.length
  | [], kvs => Nat.le_refl _
  | q :: more, kvs => by
    have h1 := merged_len more (stored kvs q.1 q.2)
    have h2 := stored_len kvs q.1 q.2
    have e : merged kvs (q :: more) = merged (stored kvs q.1 q.2) more := rfl
    rw [e, List.length_cons]
    (first | lia | omega)
theorem kd_loop {I d : Addr} {xs : List Value} {kvs : List (Str × Value)} {R : Result → Shared → Prop} {h₁ : Heap} (hh : A.handled = none) (hl : xs.length = kvs.length) (hz : kvs.length ≤ 10000) (dI : d ≠ I) (aI : a ≠ I) (ad : a ≠ d)
    (hp : ∀ (i : Nat) (v : Value) (q : Str × Value), xs[i]? = some v → kvs[i]? = some q → KV h₁ v q)
    (hnd : ∀ b o, h₁.get? b = some o → o.cls = .type "tuple" → b ≠ I ∧ b ≠ d)
    (hR : ∀ h' tk, (∀ b o, b ≠ d → b ≠ I → h₁.get? b = some o → h'.get? b = some o) → h'.DictOf (PySem.strKind pw c.w) d (merged [] kvs) → R (.ok (.ret .none)) (Mk s h' tk)) :
    ∀ (k i : Nat) (h : Heap) (tk : Nat) (u : Tok), kvs.length - i = k → i ≤ kvs.length → SeqI h I a xs i → h.DictOf (PySem.strKind pw c.w) d (merged [] (kvs.take i)) → (∀ b o, b ≠ d → b ≠ I → h₁.get? b = some o → h.get? b = some o) →
      codeAny (model pw c.w) A (.builtin "dict.update.loop" ⟨[.ref d, .ref I, .int i u, .none], []⟩) R (Mk s h tk) := by
  intro k
  induction k with
  | zero =>
    intro i h tk u hk hi S hD keep
    refine codeAny_builtin kd_entry_loop ?_
    rw [Around.under_plainId kd_plain_loop _]
    show wpAny _ A.in1 (pyNext (.ref I) >>= _) _ _ _
    refine wpAny_bind (S.done (A := A.in1) (List.getElem?_eq_none (by (first | lia | omega))) hh fun h' eb => ?_)
    show wpAny _ A.in1 (Builtin.Dict.addKeywords d [] >>= _) _ _ _
    refine wpAny_bind (wpAny_pure (wpAny_pure (hR h' tk (fun b o h1 h2 e => eb b o h2 (keep b o h1 h2 e)) ?_)))
    rw [show kvs.take i = kvs from List.take_of_length_le (by (first | lia | omega))] at hD
    exact hD.at fun o e => eb d o dI e
  | succ k ih =>
    intro i h tk u hk hi S hD keep
    have hlt : i < kvs.length := by (first | lia | omega)
    have hx : xs[i]? = some xs[i] := List.getElem?_eq_getElem (by (first | lia | omega))
    have hq : kvs[i]? = some kvs[i] := List.getElem?_eq_getElem hlt
    obtain ⟨T, u1, eT, hT⟩ := hp i _ _ hx hq
    have hT0 := hT
    obtain ⟨oT, eoT, cT, _⟩ := hT0
    obtain ⟨TI, Td⟩ := hnd T oT eoT cT
    refine codeAny_builtin kd_entry_loop ?_
    rw [Around.under_plainId kd_plain_loop _]
    show wpAny _ A.in1 (pyNext (.ref I) >>= _) _ _ _
    refine wpAny_bind (S.next (A := A.in1) aI hx fun h' S' sb => ?_)
    dsimp only
    rw [eT]
    have keep' : ∀ b o, b ≠ d → b ≠ I → h₁.get? b = some o → h'.get? b = some o := fun b o h1 h2 e => (sb.2 b h2).trans (keep b o h1 h2 e)
    have hT' : At h' T (Tup [Value.str kvs[i].fst u1, kvs[i].snd]) := let ⟨o, e, r⟩ := hT; ⟨o, keep' T o Td TI e, r⟩
    have hD' : h'.DictOf (PySem.strKind pw c.w) d (merged [] (kvs.take i)) := hD.sameBut sb dI
    refine wpAny_bind (wpAny_holding (wpAny_bind (wpAny_tryCatch (kd_pair hT' ?_))))
    dsimp only
    refine wpAny_holding (wpAny_dictSet_pairs (s := Mk s h' tk) (strIs c.w _ u1) hD' (fun h2 D2 sb2 => ?_) (by
      rw [sizeLine_eq]
      have := merged_len (kvs.take i) ([] : List (Str × Value))
      rw [List.length_take, List.length_nil] at this
      (first | lia | omega)))
    have eq : ((i : Int) + 1) = ((i + 1 : Nat) : Int) := by (first | lia | omega)
    rw [eq]
    refine wpAny_pure ⟨plainId_quiet kd_plain_loop _, ih (i + 1) h2 _ 0 (by (first | lia | omega)) hlt (S'.keep fun b o hb e => (sb2.2 b (by rcases hb with rfl | rfl; exact dI.symm; exact ad)).trans e) ?_ (fun b o h1 h2 e => (sb2.2 b h1).trans (keep' b o h1 h2 e))⟩
    rw [merged_take_succ _ _ _ _ hq]
    exact D2
theorem it_no {x y : String} {P : Prop} (h : Value.type x = Value.type y) (ne : x ≠ y := by decide) : P := absurd (Value.type.inj h) ne
/-- dict(pairs) -/
theorem kd_make {xs : List Value} {kvs : List (Str × Value)} (ha : At h a (Tup xs) ∨ At h a (Lst xs)) (hn : ∀ o, h.get? a = some o → o.dict = none) (hh : A.handled = none) (hl : xs.length = kvs.length) (hz : kvs.length ≤ 10000)
    (hp : ∀ (i : Nat) (v : Value) (q : Str × Value), xs[i]? = some v → kvs[i]? = some q → KV h v q)
    (H : ∀ h' tk, (∀ b o, h.get? b = some o → h'.get? b = some o) → h'.DictOf (PySem.strKind pw c.w) h.objs.size (merged [] kvs) → Q (.ref h.objs.size) (Mk s h' tk)) :
    wpAny (model pw c.w) A (call (.type "dict") [.ref a]) Q E (Mk s h t) := by
  refine callType_codes (Q₁ := fun obj s₁ => obj = .ref h.objs.size ∧ s₁ = Mk s (h.push { cls := .type "dict", data := .dict #[] }) t) PySem.F.kt_called_dict (PySem.F.kt_typeCall_dict_1 _) PySem.F.entry_dict_init (kt_code_dict_new _ ⟨rfl, rfl⟩) ?_
  rintro obj s₁ ⟨rfl, rfl⟩
  have hnew : (h.push { cls := .type "dict", data := .dict #[] }).DictOf (PySem.strKind pw c.w) h.objs.size [] := Heap.DictOf.new h
  refine ⟨hnew.typeIs (s := Mk s _ t), PySem.F.args_dict_init_2 _ _, ?_⟩
  unfold Builtin.«dict.__init__»
  refine wpAny_bind ?_
  unfold Builtin.Dict.selfAndRest
  refine wpAny_bind (wpAny_notOrdered_dict (hnew.typeIs (s := Mk s _ t)) ?_)
  show wpAny _ _ (pure (h.objs.size, [Value.ref a])) _ _ _
  refine wpAny_pure ?_
  show wpAny _ _ (Builtin.Dict.updateFrom "dict.__init__" h.objs.size (.ref a) [] .none) _ _ _
  unfold Builtin.Dict.updateFrom
  rcases ha with ha | ha
  · have ha0 := ha
    obtain ⟨o, e, hc, n, hdt⟩ := ha0
    have e1 : (h.push { cls := .type "dict", data := .dict #[] }).get? a = some o := Heap.get?_push_of_some _ e
    refine wpAny_bind (wpAny_typeOf (s := Mk s _ t) ⟨o, e1, hc⟩ ?_)
    rw [if_pos (by decide)]
    refine wpAny_bind (keys_noneTup (s := s) e1 hc (hn o e) hdt hh (fun h2 t2 k2 => ?_))
    rw [if_pos (show (none : Option Value).isNone = true from rfl)]
    refine wpAny_bind (wpAny_rule ?_)
    have ha2 : At h2 a (Tup xs) := ⟨o, k2 _ _ e1, hc, n, hdt⟩
    refine wpAny_bind (wpAny_pyIter_tuple (s := Mk s h2 t2) ha2.tupl ?_)
    refine wpAny_pure ⟨plainId_quiet kd_plain_loop _, ?_⟩
    have hd2 := k2 _ _ (Heap.get?_push_size h (o := { cls := .type "dict", data := .dict #[] }) rfl)
    have l1 : a < h.objs.size := Heap.lt_size e
    have l2 : h.objs.size < h2.objs.size := Heap.lt_size hd2
    have kk : ∀ b o, h.get? b = some o → (h2.push { cls := .type "tuple_iterator", data := .fields #[.ref a, .int 0 0] }).get? b = some o := fun b o e => Heap.get?_push_of_some _ (k2 _ _ (Heap.get?_push_of_some _ e))
    exact kd_loop (A := A.in1) (h₁ := h2.push { cls := .type "tuple_iterator", data := .fields #[.ref a, .int 0 0] }) (I := h2.objs.size) (d := h.objs.size) hh hl hz (Nat.ne_of_lt l2) (Nat.ne_of_lt (Nat.lt_trans l1 l2)) (Nat.ne_of_lt l1)
      (fun i v q h1 h2 => let ⟨T, u, e1, o, e2, r⟩ := hp i v q h1 h2; ⟨T, u, e1, o, kk _ _ e2, r⟩)
      (fun b o e cls => ⟨fun q => by
        rw [q, Heap.get?_push_size _ rfl] at e
        cases e
        exact it_no cls, fun q => by
        rw [q, Heap.get?_push_of_some _ hd2] at e
        cases e
        exact absurd cls (by decide)⟩)
      (fun h' tk keep D => ⟨rfl, H h' tk (fun b o e => keep b o (Nat.ne_of_lt (Heap.lt_size e)) (Nat.ne_of_lt (Nat.lt_trans (Heap.lt_size e) l2)) (kk _ _ e)) D⟩)
      kvs.length 0 _ _ 0 (by (first | lia | omega)) (Nat.zero_le _) (.tup ⟨_, Heap.get?_push_size _ rfl, rfl, rfl⟩ ⟨o, kk _ _ e, hc, n, hdt⟩) (by
        rw [List.take_zero]
        exact (hnew.keep k2).push _) (fun _ _ _ _ e => e)
  · have ha0 := ha
    obtain ⟨o, e, hc, n, hdt⟩ := ha0
    have e1 : (h.push { cls := .type "dict", data := .dict #[] }).get? a = some o := Heap.get?_push_of_some _ e
    refine wpAny_bind (wpAny_typeOf (s := Mk s _ t) ⟨o, e1, hc⟩ ?_)
    rw [if_pos (by decide)]
    refine wpAny_bind (keys_noneLst (s := s) e1 hc (hn o e) hdt hh (fun h2 t2 k2 => ?_))
    rw [if_pos (show (none : Option Value).isNone = true from rfl)]
    refine wpAny_bind (wpAny_rule ?_)
    have ha2 : At h2 a (Lst xs) := ⟨o, k2 _ _ e1, hc, n, hdt⟩
    refine wpAny_bind (wpAny_pyIter_list (s := Mk s h2 t2) ha2.list ?_)
    refine wpAny_pure ⟨plainId_quiet kd_plain_loop _, ?_⟩
    have hd2 := k2 _ _ (Heap.get?_push_size h (o := { cls := .type "dict", data := .dict #[] }) rfl)
    have l1 : a < h.objs.size := Heap.lt_size e
    have l2 : h.objs.size < h2.objs.size := Heap.lt_size hd2
    have kk : ∀ b o, h.get? b = some o → (h2.push { cls := .type "list_iterator", data := .fields #[.ref a, .int 0 0] }).get? b = some o := fun b o e => Heap.get?_push_of_some _ (k2 _ _ (Heap.get?_push_of_some _ e))
    exact kd_loop (A := A.in1) (h₁ := h2.push { cls := .type "list_iterator", data := .fields #[.ref a, .int 0 0] }) (I := h2.objs.size) (d := h.objs.size) hh hl hz (Nat.ne_of_lt l2) (Nat.ne_of_lt (Nat.lt_trans l1 l2)) (Nat.ne_of_lt l1)
      (fun i v q h1 h2 => let ⟨T, u, e1, o, e2, r⟩ := hp i v q h1 h2; ⟨T, u, e1, o, kk _ _ e2, r⟩)
      (fun b o e cls => ⟨fun q => by
        rw [q, Heap.get?_push_size _ rfl] at e
        cases e
        exact it_no cls, fun q => by
        rw [q, Heap.get?_push_of_some _ hd2] at e
        cases e
        exact absurd cls (by decide)⟩)
      (fun h' tk keep D => ⟨rfl, H h' tk (fun b o e => keep b o (Nat.ne_of_lt (Heap.lt_size e)) (Nat.ne_of_lt (Nat.lt_trans (Heap.lt_size e) l2)) (kk _ _ e)) D⟩)
      kvs.length 0 _ _ 0 (by (first | lia | omega)) (Nat.zero_le _) (.lst ⟨_, Heap.get?_push_size _ rfl, rfl, rfl⟩ ⟨o, kk _ _ e, hc, n, hdt⟩) (by
        rw [List.take_zero]
        exact (hnew.keep k2).push _) (fun _ _ _ _ e => e)


-- F18
theorem k_dictOf {xs : List Value} {kvs : List (Str × Value)} (S : St c outer D h0 L m led h) (ha : At h a (Tup xs) ∨ At h a (Lst xs)) (hn : ∀ o, h.get? a = some o → o.dict = none) (hh : A.handled = none) (hl : xs.length = kvs.length) (hz : kvs.length ≤ 10000)
    (hp : ∀ (i : Nat) (v : Value) (q : Str × Value), xs[i]? = some v → kvs[i]? = some q → KV h v q)
    (H : ∀ d h' t', h0.get? d = none → (d == sysModules) = false → St c outer D h0 L m ((d, Dct c (merged [] kvs)) :: led) h' → (∀ b o, h.get? b = some o → h'.get? b = some o) → Q (.ref d) (Mk s h' t')) :
    wpAny (model pw c.w) A (call (.type "dict") [.ref a]) Q E (Mk s h t) :=
  kd_make ha hn hh hl hz hp fun h' tk keep d => H _ h' _ (S.old (new_size h)) S.nsys (S.more (news := [(h.objs.size, Dct c (merged [] kvs))]) keep (fun p hp => by
    rw [List.mem_singleton.mp hp]
    exact ⟨At.ofDct d, new_size h⟩) (by simp)) keep
noncomputable def dfl : List (Str × Int) := [(Str.ofString "max_idle_timeout", 0), (Str.ofString "max_udp_payload_size", 65527), (Str.ofString "initial_max_data", 0), (Str.ofString "initial_max_stream_data_bidi_local", 0), (Str.ofString "initial_max_stream_data_bidi_remote", 0), (Str.ofString "initial_max_stream_data_uni", 0), (Str.ofString "initial_max_streams_bidi", 0), (Str.ofString "initial_max_streams_uni", 0), (Str.ofString "ack_delay_exponent", 3), (Str.ofString "max_ack_delay", 25), (Str.ofString "active_connection_id_limit", 2)]
noncomputable def drefs : List Value := [.ref 173, .ref 174, .ref 175, .ref 176, .ref 177, .ref 178, .ref 179, .ref 180, .ref 181, .ref 182, .ref 183]
theorem DF_at (g : G c h) : At h 184 (Tup drefs) := ⟨_, g.X 184 _ (by rfl), rfl, _, rfl⟩
theorem DF_nd (g : G c h) : ∀ o, h.get? 184 = some o → o.dict = none := fun o e => by
  have := g.X 184 _ (by rfl)
  rw [this] at e
  cases e
  rfl
/-- a table of numbers -/
inductive NT : List (Str × Int) → List (Str × Value) → Prop
  | nil : NT [] []
  | cons {n : Str} {k : Int} {u : Tok} {r : List (Str × Int)} {kvs : List (Str × Value)} : NT r kvs → NT ((n, k) :: r) ((n, .int k u) :: kvs)
theorem DF_rows (g : G c h) : ∃ kvs : List (Str × Value), NT dfl kvs ∧ kvs.length = 11 ∧ ∀ (i : Nat) (v : Value) (q : Str × Value), drefs[i]? = some v → kvs[i]? = some q → KV h v q := by
  obtain ⟨u0, t0, r0⟩ : ∃ u t, At h 173 (Tup [.str (Str.ofString "max_idle_timeout") u, .int 0 t]) := ⟨_, _, _, g.X 173 _ (by rfl), rfl, _, rfl⟩
  obtain ⟨u1, t1, r1⟩ : ∃ u t, At h 174 (Tup [.str (Str.ofString "max_udp_payload_size") u, .int 65527 t]) := ⟨_, _, _, g.X 174 _ (by rfl), rfl, _, rfl⟩
  obtain ⟨u2, t2, r2⟩ : ∃ u t, At h 175 (Tup [.str (Str.ofString "initial_max_data") u, .int 0 t]) := ⟨_, _, _, g.X 175 _ (by rfl), rfl, _, rfl⟩
  obtain ⟨u3, t3, r3⟩ : ∃ u t, At h 176 (Tup [.str (Str.ofString "initial_max_stream_data_bidi_local") u, .int 0 t]) := ⟨_, _, _, g.X 176 _ (by rfl), rfl, _, rfl⟩
  obtain ⟨u4, t4, r4⟩ : ∃ u t, At h 177 (Tup [.str (Str.ofString "initial_max_stream_data_bidi_remote") u, .int 0 t]) := ⟨_, _, _, g.X 177 _ (by rfl), rfl, _, rfl⟩
  obtain ⟨u5, t5, r5⟩ : ∃ u t, At h 178 (Tup [.str (Str.ofString "initial_max_stream_data_uni") u, .int 0 t]) := ⟨_, _, _, g.X 178 _ (by rfl), rfl, _, rfl⟩
  obtain ⟨u6, t6, r6⟩ : ∃ u t, At h 179 (Tup [.str (Str.ofString "initial_max_streams_bidi") u, .int 0 t]) := ⟨_, _, _, g.X 179 _ (by rfl), rfl, _, rfl⟩
  obtain ⟨u7, t7, r7⟩ : ∃ u t, At h 180 (Tup [.str (Str.ofString "initial_max_streams_uni") u, .int 0 t]) := ⟨_, _, _, g.X 180 _ (by rfl), rfl, _, rfl⟩
  obtain ⟨u8, t8, r8⟩ : ∃ u t, At h 181 (Tup [.str (Str.ofString "ack_delay_exponent") u, .int 3 t]) := ⟨_, _, _, g.X 181 _ (by rfl), rfl, _, rfl⟩
  obtain ⟨u9, t9, r9⟩ : ∃ u t, At h 182 (Tup [.str (Str.ofString "max_ack_delay") u, .int 25 t]) := ⟨_, _, _, g.X 182 _ (by rfl), rfl, _, rfl⟩
  obtain ⟨u10, t10, r10⟩ : ∃ u t, At h 183 (Tup [.str (Str.ofString "active_connection_id_limit") u, .int 2 t]) := ⟨_, _, _, g.X 183 _ (by rfl), rfl, _, rfl⟩
  refine ⟨[(Str.ofString "max_idle_timeout", .int 0 t0), (Str.ofString "max_udp_payload_size", .int 65527 t1), (Str.ofString "initial_max_data", .int 0 t2), (Str.ofString "initial_max_stream_data_bidi_local", .int 0 t3), (Str.ofString "initial_max_stream_data_bidi_remote", .int 0 t4), (Str.ofString "initial_max_stream_data_uni", .int 0 t5), (Str.ofString "initial_max_streams_bidi", .int 0 t6), (Str.ofString "initial_max_streams_uni", .int 0 t7), (Str.ofString "ack_delay_exponent", .int 3 t8), (Str.ofString "max_ack_delay", .int 25 t9), (Str.ofString "active_connection_id_limit", .int 2 t10)], .cons (.cons (.cons (.cons (.cons (.cons (.cons (.cons (.cons (.cons (.cons (.nil))))))))))), rfl, fun i v q h1 h2 => ?_⟩
  have hi : i < 11 := (List.getElem?_eq_some_iff.mp h1).1
  have : i = 0 ∨ i = 1 ∨ i = 2 ∨ i = 3 ∨ i = 4 ∨ i = 5 ∨ i = 6 ∨ i = 7 ∨ i = 8 ∨ i = 9 ∨ i = 10 := lt11 i hi
  rcases this with rfl | rfl | rfl | rfl | rfl | rfl | rfl | rfl | rfl | rfl | rfl
  · cases h1; cases h2; exact ⟨_, _, rfl, r0⟩
  · cases h1; cases h2; exact ⟨_, _, rfl, r1⟩
  · cases h1; cases h2; exact ⟨_, _, rfl, r2⟩
  · cases h1; cases h2; exact ⟨_, _, rfl, r3⟩
  · cases h1; cases h2; exact ⟨_, _, rfl, r4⟩
  · cases h1; cases h2; exact ⟨_, _, rfl, r5⟩
  · cases h1; cases h2; exact ⟨_, _, rfl, r6⟩
  · cases h1; cases h2; exact ⟨_, _, rfl, r7⟩
  · cases h1; cases h2; exact ⟨_, _, rfl, r8⟩
  · cases h1; cases h2; exact ⟨_, _, rfl, r9⟩
  · cases h1; cases h2; exact ⟨_, _, rfl, r10⟩
set_option maxHeartbeats 8000000 in
theorem spec_with_defaults {hB : Heap} {kvs : List (Str × Value)} (ha : At hB a (Dct c kvs)) (na : a ∉ fsOf outer) (ns : (a == sysModules) = false) (hz : kvs.length ≤ 5000) (C : Cx c (n + 1) A outer hB none) (g : G c hB)
    (K : ∀ d kvs0 h' t', (d == sysModules) = false → NT dfl kvs0 → Ret c (fsOf outer) hB [] [(d, Dct c (merged (stored (merged [] kvs0) (Str.ofString "disable_active_migration") (.bool false)) kvs))] h' → Q (.ref d) (Mk s h' t')) :
    wpAny (model pw c.w) A (call (.ref 266) [.ref a]) Q E (Mk s hB t) := by
  refine enter (binds := [(Str.ofString "told", .ref a)]) C g pre_nil (by rfl) (by rfl) rfl (by rfl) (by decide) (fun L h2 t2 S C2 => ?_)
  with_reducible refine x_asg (x_call (x_blt S (b_dict S.g) (x_cwT (x_arg (x_glob S (g_DEFAULTS S.g) (x_argN ?_))))))
  obtain ⟨kvs0, nt, l0, hp⟩ := DF_rows S.g
  refine k_dictOf S (.inl (DF_at S.g)) (DF_nd S.g) C2.hd (by rw [l0]; rfl) (by rw [l0]; decide) hp (fun d h t d0 ds S _ => ?_)
  (with_reducible refine x_store S (fun h t S => x_asgSub (i_bool (x_loc (by assumption) (by ((repeat refine it_ne ?_ (by decide)); first | assumption | exact it_eq | with_unfolding_all rfl)) ?_))); with_reducible refine i_str (fun _ _ => ?_))
  refine d_setS S (by have := merged_len kvs0 ([] : List (Str × Value)); rw [List.length_nil] at this; (first | lia | omega)) (fun h t S => ?_)
  with_reducible refine x_expr ?_
  refine x_callA ?_
  with_reducible refine x_loc (by assumption) (by ((repeat refine it_ne ?_ (by decide)); first | assumption | exact it_eq | with_unfolding_all rfl)) ?_
  refine m_dict S.head PySem.F.slot_dict_update PySem.F.type_dict_update ?_
  with_reducible refine x_cwB1 ?_
  (with_reducible refine x_arg (x_loc (by assumption) (by ((repeat refine it_ne ?_ (by decide)); first | assumption | exact it_eq | with_unfolding_all rfl)) ?_); with_reducible refine x_argN ?_)
  have l1 := merged_len kvs0 ([] : List (Str × Value))
  have l2 := stored_len (merged [] kvs0) (Str.ofString "disable_active_migration") (.bool false)
  rw [List.length_nil] at l1
  refine d_update S (S.base ha na) (fun q => nn_of ha.choose_spec.1 (q ▸ d0)) ns (by (first | lia | omega)) (fun h S => ?_)
  dsimp only
  with_reducible refine x_ret (x_loc (by assumption) (by ((repeat refine it_ne ?_ (by decide)); first | assumption | exact it_eq | with_unfolding_all rfl)) ?_)
  exact K d kvs0 _ _ ds nt (S.done (post := []) rfl)


-- F19
theorem own_goL {I : Addr} {a : Addr} {i : Nat} {elts : List Expr} {k : Nat} {ps : Pos} {v : Value} {QU : Unit → Shared → Prop} (hI : At h I (ItL a i)) (H : QU () (Mk s h t)) : wpAny M A (letOwnedTupleGo (.Tuple elts k ps) (.ref I) v) QU E (Mk s h t) := by
  obtain ⟨o, e, hc, hdt⟩ := hI
  unfold letOwnedTupleGo
  cases v with
  | ref b =>
    refine wpAny_bind (wpAny_load (s := Mk s h t) e ?_)
    rw [hc, hdt]
    dsimp only
    have z : (["enumerate", "zip", "dict_itemiterator", "dict_reverseitemiterator", "odict_iterator", "itertools.zip_longest", "itertools.pairwise"] : List String).contains "list_iterator" = false := by decide +kernel
    rw [z, Bool.false_and, if_neg (by decide)]
    exact wpAny_pure H
  | _ => exact wpAny_pure H
noncomputable def DQ (c : Ct) (Q : Value → Shared → Prop) (d : Addr) (vs : List (Value × Value)) (s₁ : Shared) : Prop :=
  ∃ kvs, Carries (PySem.strKind pw c.w) vs kvs ∧ s₁.heap.DictOf (PySem.strKind pw c.w) d [] ∧ ∀ h', h'.DictOf (PySem.strKind pw c.w) d (merged [] kvs) → Heap.SameBut d s₁.heap h' → Q (.ref d) { s₁ with heap := h', toks := s₁.toks + vs.length }
theorem x_dictS {keys : List (Option Expr)} {values : List Expr} {pos : Pos} (S : St c outer D h0 L m led h)
    (H : ∀ d h', h0.get? d = none → (d == sysModules) = false → St c outer D h0 L m ((d, Dct c []) :: led) h' → (∀ b o, h.get? b = some o → h'.get? b = some o) → wpAny (model pw c.w) A (evalPairs (pairTrees keys values env pos)) (DQ c Q d) E (Mk s h' t))
    (hall : keys.all (·.isSome) = true := by with_unfolding_all rfl) (hl : keys.length = values.length := by with_unfolding_all rfl) (h0k : keys ≠ [] := by exact List.cons_ne_nil _ _) (hlen : keys.length ≤ 15 := by exact Nat.le_of_ble_eq_true rfl) :
    wpAny (model pw c.w) A (eval (.Dict keys values pos) env) Q E (Mk s h t) :=
  wpAny_Dict_walk (s := Mk s h t) (knd := PySem.strKind pw c.w) hall hl h0k hlen (H _ _ (S.old (new_size h)) S.nsys (S.push _ _ (dct_new h)) fun b o e => Heap.get?_push_of_some _ e)
theorem mk_dictS {d : Addr} {vs : List (Value × Value)} (S : St c outer D h0 L m ((d, Dct c []) :: led) h) (hk : allStrKeys vs = true) (hn : ((strPairs vs).map (·.1)).Nodup)
    (H : ∀ h' t', St c outer D h0 L m ((d, Dct c (strPairs vs)) :: led) h' → Q (.ref d) (Mk s h' t')) : DQ c Q d vs (Mk s h t) := by
  obtain ⟨kvs, h1, h2, h3⟩ := display_done_str (prog := pw) (w := c.w) (P := fun h' => Q (.ref d) { Mk s h t with heap := h', toks := (Mk s h t).toks + vs.length }) hk hn S.head.dct fun h' d sb => H h' _ (S.upd sb (At.ofDct d))
  exact ⟨kvs, h1, h2, h3⟩
theorem x_pair {k v : Expr} {ks : List (Option Expr)} {vs : List Expr} {pos : Pos} {QP : List (Value × Value) → Shared → Prop}
    (H : wpAny (model p w) A (eval k env) (fun kv s₁ => wpAny (model p w) A (eval v env) (fun vv s₂ => wpAny (model p w) A (evalPairs (pairTrees ks vs env pos)) (fun r s₃ => QP ((kv, vv) :: r) s₃) E s₂) E s₁) E s) :
    wpAny (model p w) A (evalPairs (pairTrees (some k :: ks) (v :: vs) env pos)) QP E s := pairTrees_cons_walk H
theorem x_pairN {pos : Pos} {QP : List (Value × Value) → Shared → Prop} (H : QP [] s) : wpAny (model p w) A (evalPairs (pairTrees [] [] env pos)) QP E s := pairTrees_nil_walk H

/-- a dict's entries and what they are -/
inductive DL : List (Str × Val) → List (Str × Value) → Led → Prop
  | nil {led : Led} : DL [] [] led
  | cons {k : Str} {x : Val} {v : Value} {l led : Led} {f : List (Str × Val)} {kvs : List (Str × Value)} : VL x v l → (∀ p ∈ l, p ∈ led) → DL f kvs led → DL ((k, x) :: f) ((k, v) :: kvs) led
theorem DL.len {f : List (Str × Val)} {kvs : List (Str × Value)} (x : DL f kvs led) : f.length = kvs.length := by
  induction x with
  | nil => rfl
  | cons _ _ _ ih => rw [List.length_cons, List.length_cons, ih]
theorem DL.more {f : List (Str × Val)} {kvs : List (Str × Value)} (x : DL f kvs led) (hs : ∀ p ∈ led, p ∈ led') : DL f kvs led' := by
  induction x with
  | nil => exact .nil
  | cons h1 h2 _ ih => exact .cons h1 (fun p hp => hs p (h2 p hp)) (ih hs)
theorem DL.app {f g : List (Str × Val)} {kvs more : List (Str × Value)} (x : DL f kvs led) (y : DL g more led) : DL (f ++ g) (kvs ++ more) led := by
  induction x with
  | nil => exact y
  | cons h1 h2 _ ih => exact .cons h1 h2 (ih y)
theorem DL.any {f : List (Str × Val)} {kvs : List (Str × Value)} (x : DL f kvs led) (k : Str) : (f.any fun q => q.1 = k) = kvs.any fun q => q.1 = k := by
  induction x with
  | nil => rfl
  | cons _ _ _ ih => rw [List.any_cons, List.any_cons, ih]
noncomputable def sto {α : Type} (f : List (Str × α)) (k : Str) (x : α) : List (Str × α) := if f.any (fun q => q.1 = k) then f.map (fun q => if q.1 = k then (q.1, x) else q) else f ++ [(k, x)]
theorem DL.rep {f : List (Str × Val)} {kvs : List (Str × Value)} {k : Str} {x : Val} {v : Value} {l : Led} (y : DL f kvs led) (hv : VL x v l) (hl : ∀ p ∈ l, p ∈ led) : DL (f.map fun q => if q.1 = k then (q.1, x) else q) (kvs.map fun q => if q.1 = k then (q.1, v) else q) led := by
  induction y with
  | nil => exact .nil
  | @cons k' x' v' l' led f kvs h1 h2 _ ih =>
    rw [List.map_cons, List.map_cons]
    by_cases q : k' = k
    · rw [if_pos q, if_pos q]; exact .cons hv hl (ih hl)
    · rw [if_neg q, if_neg q]; exact .cons h1 h2 (ih hl)
theorem DL.sto {f : List (Str × Val)} {kvs : List (Str × Value)} {k : Str} {x : Val} {v : Value} {l : Led} (y : DL f kvs led) (hv : VL x v l) (hl : ∀ p ∈ l, p ∈ led) : DL (sto f k x) (stored kvs k v) led := by
  unfold stored Mine.sto
  rw [y.any k]
  split
  · exact y.rep hv hl
  · exact y.app (.cons hv hl .nil)
/-- what read_params answers -/
noncomputable def ofServer : List Str := [Str.ofString "original_destination_connection_id", Str.ofString "stateless_reset_token", Str.ofString "preferred_address", Str.ofString "retry_source_connection_id"]
noncomputable def rpGo (role : Str) : List (Int × List Int) → List (Int × List Int) → List (Str × Val) → List Int → Option (List (Int × List Int) × List (Str × Val))
  | [], u, f, _ => some (u, f)
  | q :: r, u, f, m =>
    if q.1 ∈ m then none
    else if 0 ≤ q.1 ∧ q.1 < 17 then
      if (role == Str.ofString "client" && ofServer.any fun y => y == pname q.1.toNat) = true then none
      else match readVal (pname q.1.toNat) (pkind q.1.toNat) q.2 with
        | none => none
        | some x => rpGo role r u (sto f (pname q.1.toNat) x) (m ++ [q.1])
    else rpGo role r (u ++ [q]) f (m ++ [q.1])
noncomputable def rdParams (role : Str) (ks : List Int) : Option (List (Int × List Int) × List (Str × Val)) := (rdPairs ks).bind fun ps => rpGo role ps [] [] []
noncomputable def mets (m : List Int) : List (Int × Value) := m.map fun k => (k, .bool true)
theorem mets_in (m : List Int) (k : Int) : (valueAt (mets m) k).isSome = decide (k ∈ m) := by
  induction m with
  | nil => rfl
  | cons x m ih =>
    unfold valueAt mets at ih ⊢
    rw [List.map_cons, List.find?_cons]
    by_cases q : x = k
    · subst q; simp
    · have q' : ¬ k = x := fun e => q e.symm
      simp only [q, decide_false, List.mem_cons, q', false_or]
      exact ih
theorem mets_add (m : List Int) (k : Int) (h : k ∉ m) : stored (mets m) k (.bool true) = mets (m ++ [k]) := by
  unfold stored
  rw [if_neg (by
    unfold mets
    rw [List.any_map, List.any_eq_true]
    rintro ⟨x, hx, e⟩
    have e : x = k := by simpa using e
    exact h (e ▸ hx))]
  unfold mets
  rw [List.map_append]
  rfl


-- F20
theorem St.off {k : Kd} (S : St c outer D h0 L m led h) (hf : env.frame = some L) (hp : (a, k) ∈ led) : a ∉ fsOf (env :: outer) := by
  rw [fs_cons hf]
  intro q
  rcases List.mem_cons.mp q with rfl | q
  · exact S.nL (List.mem_map_of_mem hp)
  · exact (S.nF _ q).2 (List.mem_map_of_mem hp)
theorem PLd_mem {Ts : List Addr} {ps : List (Int × List Int)} {i : Nat} {T : Addr} {q : Int × List Int} (h1 : Ts[i]? = some T) (h2 : ps[i]? = some q) : (T, PK q) ∈ PLd Ts ps := by
  unfold PLd
  refine List.mem_of_getElem? (i := i) ?_
  rw [List.getElem?_zipWith, h1, h2]
theorem pairsF_len {ks : List Int} : ∀ {n : Nat} {at_ : Int} {ps : List (Int × List Int)}, pairsF ks n at_ = some ps → ps.length ≤ n
  | 0, at_, ps, h => by cases h; exact Nat.le_refl _
  | n + 1, at_, ps, h => by
    unfold pairsF at h
    split at h
    · split at h
      · cases h
      · split at h
        · cases h
        · split at h
          · rw [Option.map_eq_some_iff] at h
            obtain ⟨r, hr, rfl⟩ := h
            have := pairsF_len hr
            rw [List.length_cons]; (first | lia | omega)
          · cases h
    · cases h; exact Nat.zero_le _
theorem stored_ne {kvs : List (Str × Value)} {k k' : Str} {v v' : Value} (h : k ≠ k') : stored ((k, v) :: kvs) k' v' = (k, v) :: stored kvs k' v' := by
  unfold stored
  rw [List.any_cons]
  have : decide (k = k') = false := decide_eq_false h
  rw [show decide ((k, v).1 = k') = false from this, Bool.false_or, List.map_cons, if_neg (show ¬ (k, v).1 = k' from h)]
  split <;> rfl


-- F21
noncomputable def DAM : Str := Str.ofString "disable_active_migration"
noncomputable def UNK : Str := Str.ofString "unknown"
theorem pname_mem {i : Nat} (hi : i < 17) : pname i ∈ pnames := by
  unfold pname
  rw [List.getD_eq_getElem?_getD, List.getElem?_eq_getElem (by show i < pnames.length; exact hi)]
  exact List.getElem_mem _
theorem pnames_ok : ∀ x ∈ pnames, x.length ≤ 60 ∧ UNK ≠ x := by decide +kernel
theorem OF_at (g : G c h) : ∃ t0 t1 t2 t3, At h 172 (Tup [.str (Str.ofString "original_destination_connection_id") t0, .str (Str.ofString "stateless_reset_token") t1, .str (Str.ofString "preferred_address") t2, .str (Str.ofString "retry_source_connection_id") t3]) := ⟨_, _, _, _, _, g.X 172 _ (by rfl), rfl, _, rfl⟩
noncomputable def eqS (x : Str) : Value → Bool
  | .str y _ => y == x
  | _ => false
theorem eqS_at {x : Str} {u : Tok} {A : Around} {s : Shared} {y : Value} (hy : ∃ z t, y = .str z t) : SeqAt.EqAt A s y (.str x u) (eqS x y) := by
  obtain ⟨z, t, rfl⟩ := hy
  exact SeqAt.EqAt.str_str z t x u
theorem pairsF_val {ks : List Int} : ∀ {n : Nat} {at_ : Int} {ps : List (Int × List Int)}, pairsF ks n at_ = some ps → ∀ q ∈ ps, q.2.length ≤ ks.length
  | 0, at_, ps, h => by cases h; intro q hq; cases hq
  | n + 1, at_, ps, h => by
    unfold pairsF at h
    split at h
    · split at h
      · cases h
      · split at h
        · cases h
        · split at h
          · rw [Option.map_eq_some_iff] at h
            obtain ⟨r, hr, rfl⟩ := h
            intro q hq
            rcases List.mem_cons.mp hq with rfl | hq
            · rw [List.length_take, List.length_drop]; (first | lia | omega)
            · exact pairsF_val hr q hq
          · cases h
    · cases h; intro q hq; cases hq
theorem valueAt_head {kvs : List (Str × Value)} {k : Str} {v : Value} : valueAt ((k, v) :: kvs) k = some v := by unfold valueAt; rw [List.find?_cons]; simp


-- F22
theorem sub_bytes_None : isSubtype (.type "bytes") (.type "NoneType") = pure false := by rw [isSubtype_type]; kernel_rfl
theorem slot_bytes_ne_r : Slot "bytes" (cmpInfo .NotEq).2.2 "bytes.__ne__" :=
  .of (owner := "bytes") (n := "__ne__") (by rw [typeLookup_type, builtinLookup_eq_fast]; kernel_rfl) (by decide +kernel) (by decide +kernel) (by decide +kernel)
    (by first | exact .inl (by decide +kernel) | exact .inr (by decide +kernel)) (by rw [isSubtype_type]; kernel_rfl)
theorem slot_bytes_eq_r : Slot "bytes" (cmpInfo .Eq).2.2 "bytes.__eq__" :=
  .of (owner := "bytes") (n := "__eq__") (by rw [typeLookup_type, builtinLookup_eq_fast]; kernel_rfl) (by decide +kernel) (by decide +kernel) (by decide +kernel)
    (by first | exact .inl (by decide +kernel) | exact .inr (by decide +kernel)) (by rw [isSubtype_type]; kernel_rfl)
theorem gives_ne_bN (b : Array UInt8) (u : Tok) : Gives (Builtin.«bytes.__ne__» ⟨[.bytes b u, .none], []⟩) (.val .notImplemented) := by
  refine .of_wp fun M A E s Q hq => ?_
  show wpAny M A (isInstance .none (.type "bytes") >>= fun r => _) _ E s
  refine wpAny_bind (wpAny_isInstance (T := "NoneType") rfl PySem.F.sub_NoneType_bytes ?_)
  refine wpAny_bind (wpAny_isInstance (T := "NoneType") rfl PySem.F.sub_NoneType_bytes ?_)
  rw [if_pos (by decide)]
  exact wpAny_bind (wpAny_rule (wpAny_pure ⟨_, rfl, hq⟩))
theorem gives_ne_Nb (b : Array UInt8) (u : Tok) : Gives (Builtin.«NoneType.__ne__» ⟨[.none, .bytes b u], []⟩) (.val .notImplemented) :=
  .of_wp fun M A E s Q h => by obtain ⟨hp, g, d, tk, os⟩ := s; wp_walk; exact ⟨_, rfl, h⟩
theorem ne_bN {b : Array UInt8} {u : Tok} (H : Q (.bool true) s) : wpAny (model p w) A (compareOp .NotEq (.bytes b u) .none) Q E s := by
  show wpAny _ A (richCompare .NotEq _ _) Q E s
  exact PySem.EqNone.wpAny_richCompare_ne_decline (k := false) (fun s' => typeIs_bytes s' b u) (fun _ => rfl) (by decide) PySem.F.sub_NoneType_bytes FB.slot_bytes_ne F.slot_NoneType_ne_refl rfl
    (call_gives FB.slot_bytes_ne (typeIs_bytes s b u) FB.entry_bytes_ne (FB.args_bytes_ne_2 _ _) (gives_ne_bN b u)
      ⟨rfl, call_gives F.slot_NoneType_ne_refl rfl F.entry_NoneType_ne (F.args_NoneType_ne_2 _ _) (gives_ne_Nb b u) ⟨rfl, H⟩⟩)
theorem ne_Nb {b : Array UInt8} {u : Tok} (H : Q (.bool true) s) : wpAny (model p w) A (compareOp .NotEq .none (.bytes b u)) Q E s := by
  show wpAny _ A (richCompare .NotEq _ _) Q E s
  exact PySem.EqNone.wpAny_richCompare_ne_decline (k := false) (fun _ => rfl) (fun s' => typeIs_bytes s' b u) (by decide) sub_bytes_None F.slot_NoneType_ne slot_bytes_ne_r rfl
    (call_gives F.slot_NoneType_ne rfl F.entry_NoneType_ne (F.args_NoneType_ne_2 _ _) (gives_ne_Nb b u)
      ⟨rfl, call_gives slot_bytes_ne_r (typeIs_bytes s b u) FB.entry_bytes_ne (FB.args_bytes_ne_2 _ _) (gives_ne_bN b u) ⟨rfl, H⟩⟩)
/-- bytes or None -/
inductive OB : Option (List Int) → Value → Prop
  | none : OB none .none
  | some {l : List Int} {b : Array UInt8} (u : Tok) (hb : KBw.bInts b = l) : OB (some l) (.bytes b u)
theorem bInts_inj {b b' : Array UInt8} (e : KBw.bInts b = KBw.bInts b') : b.toList = b'.toList :=
  (List.map_inj_right (fun x y (z : (x.toNat : Int) = (y.toNat : Int)) => UInt8.toNat_inj.mp (Int.ofNat.inj z))).mp e
theorem bInts_ne (b b' : Array UInt8) : (b.toList != b'.toList) = (KBw.bInts b != KBw.bInts b') := by
  by_cases q : b.toList = b'.toList
  · rw [q, show KBw.bInts b = KBw.bInts b' by unfold KBw.bInts; rw [q]]; simp
  · have : ¬ KBw.bInts b = KBw.bInts b' := fun e => q (bInts_inj e)
    rw [show (b.toList != b'.toList) = true by simpa using q, show (KBw.bInts b != KBw.bInts b') = true by simpa using this]
theorem ob_ne {x y : Option (List Int)} {v v' : Value} (hx : OB x v) (hy : OB y v') (H : Q (.bool (x != y)) (Mk s h t)) : wpAny (model p w) A (compareOp .NotEq v v') Q E (Mk s h t) := by
  cases hx with
  | none => cases hy with
    | none => exact PySem.EqNone.ne_none_none H
    | some u hb => exact ne_Nb H
  | some u hb => cases hy with
    | none => exact ne_bN H
    | some u' hb' =>
      refine PySem.W.ne_bytes ?_
      rw [bInts_ne, hb, hb']
      exact H
/-- what checked_ids does: true, it is content -/
noncomputable def okIds (role : Str) (i o r : Option (List Int)) (source original retry : Option (List Int)) : Bool :=
  if (i != source) = true then false else if (role == Str.ofString "client") = true then true else if (o != original) = true then false else if (r != retry) = true then false else true
noncomputable def idAt (kvs : List (Str × Value)) (k : String) : Value := (valueAt kvs (Str.ofString k)).getD .none
set_option maxHeartbeats 8000000 in
theorem spec_checked_ids {hB : Heap} {kvs : List (Str × Value)} {role : Str} {u : Tok} {vo vs vr : Value} {i o r source original retry : Option (List Int)} (ha : At hB a (Dct c kvs)) (na : a ∉ fsOf outer) (ns : (a == sysModules) = false)
    (hi : OB i (idAt kvs "initial_source_connection_id")) (ho : OB o (idAt kvs "original_destination_connection_id")) (hr : OB r (idAt kvs "retry_source_connection_id")) (h1 : OB source vs) (h2 : OB original vo) (h3 : OB retry vr)
    (C : Cx c (n + 4) A outer hB none) (g : G c hB)
    (K : okIds role i o r source original retry = true → ∀ h' t', Ret c (fsOf outer) hB [] [] h' → Q .none (Mk s h' t'))
    (KE : okIds role i o r source original retry = false → ∀ e h' t', Fly hB 38 (some 8) e .none h' → Ext c [] (fsOf outer) hB h' → E (.ref e) (Mk s h' t')) :
    wpAny (model pw c.w) A (call (.ref 273) [.ref a, .str role u, vo, vs, vr]) Q E (Mk s hB t) := by
  refine enterE (binds := [(Str.ofString "told", .ref a), (Str.ofString "role", .str role u), (Str.ofString "original", vo), (Str.ofString "source", vs), (Str.ofString "retry_source", vr)]) C g pre_nil (by rfl) (by rfl) rfl (by rfl) (by decide) (fun L hL t2 m QF EF A' hm hQ hN hE S C2 => ?_)
  have b0 := (hm (Str.ofString "told")).trans (b := some (Value.ref a)) (by rfl)
  have b1 := (hm (Str.ofString "role")).trans (b := some (Value.str role u)) (by rfl)
  have b2 := (hm (Str.ofString "original")).trans (b := some vo) (by rfl)
  have b3 := (hm (Str.ofString "source")).trans (b := some vs) (by rfl)
  have b4 := (hm (Str.ofString "retry_source")).trans (b := some vr) (by rfl)
  clear hm
  with_reducible refine x_if (wpAny_isTrue_Compare1 ?_)
  refine x_callA ?_
  with_reducible refine x_loc (by assumption) (by ((repeat refine it_ne ?_ (by decide)); first | assumption | exact it_eq | with_unfolding_all rfl)) ?_
  refine m_dict (S.base ha na) PySem.F.slot_dict_get PySem.F.type_dict_get ?_
  with_reducible refine x_cwB1 ?_
  with_reducible refine x_arg (i_str (fun _ _ => x_argN ?_))
  refine d_get1 (S.base ha na) ns (fun t => ?_)
  with_reducible refine x_loc (by assumption) (by ((repeat refine it_ne ?_ (by decide)); first | assumption | exact it_eq | with_unfolding_all rfl)) ?_
  refine ob_ne hi h1 ?_
  (with_reducible refine wpAny_truthy_bool (br_c (fun q => ?_) (fun q => ?_)); with_reducible refine x_expr (x_call (x_glob S (g_refuse_params S.g) (x_cw (K := hd.heap_1 c.w.params) (by with_unfolding_all rfl) (x_arg (i_str (fun _ _ => x_argN (x_in S ?_))))))))
  · refine spec_refuse (n := n) (by decide) (Cx.le (S.cx C2) (by exact Nat.le_refl _)) S.g (.inl rfl) (fun e h t X x => ?_)
    exact hE _ _ (x_out S rfl rfl C2.fr X (fly_h rfl x) (fun b q => (nomatch q)) (fun h4 X4 x4 => KE (by unfold okIds; rw [if_pos q]) e h4 _ X4 x4))
  have q1 := ne_true_of_eq_false q
  (with_reducible refine x_nilN (x_if (wpAny_isTrue_Compare1 (x_loc (by assumption) (by ((repeat refine it_ne ?_ (by decide)); first | assumption | exact it_eq | with_unfolding_all rfl)) ?_))); with_reducible refine i_str (fun _ _ => c_eqS (wpAny_truthy_bool (br_c (fun q => ?_) (fun q => ?_)))))
  · refine x_ret0 ?_
    exact hQ _ _ (K (by unfold okIds; rw [if_neg q1, if_pos q]) _ _ (S.done rfl))
  have q2 := ne_true_of_eq_false q
  with_reducible refine x_nilN (x_if (wpAny_isTrue_Compare1 ?_))
  refine x_callA ?_
  with_reducible refine x_loc (by assumption) (by ((repeat refine it_ne ?_ (by decide)); first | assumption | exact it_eq | with_unfolding_all rfl)) ?_
  refine m_dict (S.base ha na) PySem.F.slot_dict_get PySem.F.type_dict_get ?_
  with_reducible refine x_cwB1 ?_
  with_reducible refine x_arg (i_str (fun _ _ => x_argN ?_))
  refine d_get1 (S.base ha na) ns (fun t => ?_)
  with_reducible refine x_loc (by assumption) (by ((repeat refine it_ne ?_ (by decide)); first | assumption | exact it_eq | with_unfolding_all rfl)) ?_
  refine ob_ne ho h2 ?_
  (with_reducible refine wpAny_truthy_bool (br_c (fun q => ?_) (fun q => ?_)); with_reducible refine x_expr (x_call (x_glob S (g_refuse_params S.g) (x_cw (K := hd.heap_1 c.w.params) (by with_unfolding_all rfl) (x_arg (i_str (fun _ _ => x_argN (x_in S ?_))))))))
  · refine spec_refuse (n := n) (by decide) (Cx.le (S.cx C2) (by exact Nat.le_refl _)) S.g (.inl rfl) (fun e h t X x => ?_)
    exact hE _ _ (x_out S rfl rfl C2.fr X (fly_h rfl x) (fun b q => (nomatch q)) (fun h4 X4 x4 => KE (by unfold okIds; rw [if_neg q1, if_neg q2, if_pos q]) e h4 _ X4 x4))
  have q3 := ne_true_of_eq_false q
  with_reducible refine x_nilN (x_if (wpAny_isTrue_Compare1 ?_))
  refine x_callA ?_
  with_reducible refine x_loc (by assumption) (by ((repeat refine it_ne ?_ (by decide)); first | assumption | exact it_eq | with_unfolding_all rfl)) ?_
  refine m_dict (S.base ha na) PySem.F.slot_dict_get PySem.F.type_dict_get ?_
  with_reducible refine x_cwB1 ?_
  with_reducible refine x_arg (i_str (fun _ _ => x_argN ?_))
  refine d_get1 (S.base ha na) ns (fun t => ?_)
  with_reducible refine x_loc (by assumption) (by ((repeat refine it_ne ?_ (by decide)); first | assumption | exact it_eq | with_unfolding_all rfl)) ?_
  refine ob_ne hr h3 ?_
  (with_reducible refine wpAny_truthy_bool (br_c (fun q => ?_) (fun q => ?_)); with_reducible refine x_expr (x_call (x_glob S (g_refuse_params S.g) (x_cw (K := hd.heap_1 c.w.params) (by with_unfolding_all rfl) (x_arg (i_str (fun _ _ => x_argN (x_in S ?_))))))))
  · refine spec_refuse (n := n) (by decide) (Cx.le (S.cx C2) (by exact Nat.le_refl _)) S.g (.inl rfl) (fun e h t X x => ?_)
    exact hE _ _ (x_out S rfl rfl C2.fr X (fly_h rfl x) (fun b q => (nomatch q)) (fun h4 X4 x4 => KE (by unfold okIds; rw [if_neg q1, if_neg q2, if_neg q3, if_pos q]) e h4 _ X4 x4))
  have q4 := ne_true_of_eq_false q
  with_reducible refine x_nilN ?_
  refine x_nil ?_
  exact hN _ (K (by unfold okIds; rw [if_neg q1, if_neg q2, if_neg q3, if_neg q4]) _ _ (S.done rfl))


-- F23
noncomputable def Bx (sb : Addr) : Kd := fun o => ∃ x tx n tn, 0 ≤ n ∧ Lst [.int x tx, .ref sb, .int n tn] o
noncomputable def Sq : Kd := fun o => ∃ vs : List Value, vs ≠ [] ∧ vs.length ≤ 100 ∧ (∀ v ∈ vs, ∃ i t, v = .int i t) ∧ Lst vs o
theorem i_lst {l : Addr} {xs : List Value} {k : Int} {u : Tok} {x : Value} {value slice : Expr} (hl : At h l (Lst xs)) (h0 : 0 ≤ k) (h1 : k < 2 ^ 63) (hx : xs[k.toNat]? = some x) (H : Q x (Mk s h t))
    (hs : subscripted slice false (.ref l) (.int k u) = operate [.ref l, .int k u] (getItem (.ref l) (.int k u)) := by with_unfolding_all rfl) (hg : ∀ r, letTemporaryGo value (.ref l) r = pure () := by intro _; with_unfolding_all rfl) :
    wpAny (model p w) A (subscriptTail value slice (.ref l) (.int k u)) Q E (Mk s h t) := item_listL (s := Mk s h t) hl.list h0 h1 hx H hs hg
theorem i_lstT {l : Addr} {xs : List Value} {k : Int} {u : Tok} {x : Value} {value slice : Expr} (hl : At h l (Lst xs)) (h0 : 0 ≤ k) (h1 : k < 2 ^ 63) (hx : xs[k.toNat]? = some x) (H : Q x (Mk s h t))
    (hs : subscripted slice false (.ref l) (.int k u) = operate [.ref l, .int k u] (getItem (.ref l) (.int k u)) := by with_unfolding_all rfl) :
    wpAny (model p w) A (subscriptTail value slice (.ref l) (.int k u)) Q E (Mk s h t) :=
  tail_any (s := Mk s h t) (Heap.IsList.typeIs (s := Mk s h t) hl.list) slot_list_getitem.lookup (wpAny_getItem_list (s := Mk s h t) hl.list h0 h1 (by simpa using hx) H) hs
theorem l_set {xs : List Value} {k : Int} {u : Tok} {v : Value} {QU : Unit → Shared → Prop} (S : St c outer D h0 L m ((a, Lst xs) :: led) h) (h0' : 0 ≤ k) (h1 : k < 2 ^ 63) (hn : k < xs.length)
    (H : ∀ h', St c outer D h0 L m ((a, Lst (xs.set k.toNat v)) :: led) h' → QU () (Mk s h' t)) : wpAny (model p w) A (setItem (.ref a) (.int k u) v) QU E (Mk s h t) :=
  wpAny_setItem_list (s := Mk s h t) S.head.list h0' h1 (by simpa using hn) fun h' z sb => H h' (S.upd sb (At.ofList (by simpa using z)))
theorem l_len {l : Addr} {xs : List Value} (hl : At h l (Lst xs)) (hz : xs.length ≤ 100000) (H : ∀ u t', Q (.int (xs.length : Nat) u) (Mk s h t')) : wpAny (model p w) A (call (.builtin "len") [.ref l]) Q E (Mk s h t) :=
  Calls.call_len_list (s := Mk s h t) hl.list (by simp; (first | lia | omega)) (by rw [List.size_toArray]; exact H _ _)
set_option maxHeartbeats 4000000 in
theorem spec_next {hB : Heap} {box sb : Addr} (C : Cx c (n + 1) A outer hB hv) (g : G c hB) (P : Pre c (fsOf outer) hB [(box, Bx sb), (sb, Sq)])
    (K : ∀ r tr h' t', 0 ≤ r → r < 76924 → Ret c (fsOf outer) hB [(box, Bx sb), (sb, Sq)] [] h' → Q (.int r tr) (Mk s h' t')) :
    wpAny (model pw c.w) A (call (.ref 294) [.ref box]) Q E (Mk s hB t) := by
  refine enter (binds := [(Str.ofString "box", .ref box)]) C g P (by rfl) (by rfl) rfl (by rfl) (by decide) (fun L h t2 S C2 => ?_)
  obtain ⟨vs, hne, hlen, hint, hsb⟩ : ∃ vs : List Value, vs ≠ [] ∧ vs.length ≤ 100 ∧ (∀ v ∈ vs, ∃ i t, v = .int i t) ∧ At h sb (Lst vs) := by
    obtain ⟨o, e, vs, a1, a2, a3, a4⟩ := S.second
    exact ⟨vs, a1, a2, a3, o, e, a4⟩
  obtain ⟨x, tx, k, tk, k0, hb⟩ : ∃ x tx k tk, 0 ≤ k ∧ At h box (Lst [.int x tx, .ref sb, .int k tk]) := by
    obtain ⟨o, e, x, tx, k, tk, k0, a⟩ := S.head
    exact ⟨x, tx, k, tk, k0, o, e, a⟩
  have S := S.weak (led' := [(box, Lst [.int x tx, .ref sb, .int k tk]), (sb, Lst vs)]) rfl (by
    intro p hp
    rcases List.mem_cons.mp hp with rfl | hp
    · exact hb
    · rw [List.mem_singleton.mp hp]; exact hsb)
  (with_reducible refine x_asgSub (wpAny_BinOp (wpAny_BinOp (wpAny_BinOp (wpAny_BinOp (Subscript_ (x_loc (by assumption) (by ((repeat refine it_ne ?_ (by decide)); first | assumption | exact it_eq | with_unfolding_all rfl)) ?_)))))); with_reducible refine i_int (fun _ _ => ?_))
  refine i_lst S.head (by decide) (by decide) rfl ?_
  with_reducible refine i_int (fun _ _ => ?_)
  with_reducible refine i_mul (fun _ _ => ?_) (IntMulOk.of_right (by decide))
  (with_reducible refine i_int (fun _ _ => i_add (fun _ _ => Subscript_ (Subscript_ (x_loc (by assumption) (by ((repeat refine it_ne ?_ (by decide)); first | assumption | exact it_eq | with_unfolding_all rfl)) ?_)))); with_reducible refine i_int (fun _ _ => ?_))
  refine i_lst S.head (by decide) (by decide) rfl ?_
  (with_reducible refine wpAny_BinOp (Subscript_ (x_loc (by assumption) (by ((repeat refine it_ne ?_ (by decide)); first | assumption | exact it_eq | with_unfolding_all rfl)) ?_)); with_reducible refine i_int (fun _ _ => ?_))
  refine i_lst S.head (by decide) (by decide) rfl ?_
  (with_reducible refine x_call (x_blt S (b_len S.g) (x_cwB (x_arg (Subscript_ (x_loc (by assumption) (by ((repeat refine it_ne ?_ (by decide)); first | assumption | exact it_eq | with_unfolding_all rfl)) ?_))))); with_reducible refine i_int (fun _ _ => ?_))
  refine i_lst S.head (by decide) (by decide) rfl ?_
  with_reducible refine x_argN ?_
  refine l_len S.second (by (first | lia | omega)) (fun _ _ => ?_)
  skip
  have lp : 0 < vs.length := List.length_pos_iff.mpr hne
  with_reducible refine i_mod (by (first | lia | omega)) (fun _ _ => ?_) (PyProof.noPylong_small (by (first | lia | omega)))
  have m0 : 0 ≤ k.fmod vs.length := Int.fmod_nonneg_of_pos _ (by (first | lia | omega))
  have m1 : k.fmod vs.length < vs.length := Int.fmod_lt_of_pos _ (by (first | lia | omega))
  obtain ⟨e, u, he⟩ := hint (vs[(k.fmod vs.length).toNat]'(by (first | lia | omega))) (List.getElem_mem _)
  refine i_lstT S.second m0 (by (first | lia | omega)) (x := .int e u) (by rw [← he]; exact List.getElem?_eq_getElem _) ?_
  with_reducible refine i_add (fun _ _ => i_int (fun _ _ => ?_))
  with_reducible refine i_mod (by decide) (fun _ _ => ?_) (PyProof.noPylong_small (by decide))
  generalize hz : (x * 4021 + 9973 + e).fmod 1000003 = z
  have z0 : 0 ≤ z := hz ▸ Int.fmod_nonneg_of_pos _ (by decide)
  have z1 : z < 1000003 := hz ▸ Int.fmod_lt_of_pos _ (by decide)
  (with_reducible refine x_loc (by assumption) (by ((repeat refine it_ne ?_ (by decide)); first | assumption | exact it_eq | with_unfolding_all rfl)) ?_; with_reducible refine i_int (fun _ _ => ?_))
  refine l_set S (by decide) (by decide) (by simp) (fun h S => ?_)
  (with_reducible refine x_asgSub (wpAny_BinOp (Subscript_ (x_loc (by assumption) (by ((repeat refine it_ne ?_ (by decide)); first | assumption | exact it_eq | with_unfolding_all rfl)) ?_))); with_reducible refine i_int (fun _ _ => ?_))
  refine i_lst S.head (by decide) (by decide) rfl ?_
  (with_reducible refine i_int (fun _ _ => i_add (fun _ _ => x_loc (by assumption) (by ((repeat refine it_ne ?_ (by decide)); first | assumption | exact it_eq | with_unfolding_all rfl)) ?_)); with_reducible refine i_int (fun _ _ => ?_))
  refine l_set S (by decide) (by decide) (by simp) (fun h S => ?_)
  (with_reducible refine x_ret (wpAny_BinOp (Subscript_ (x_loc (by assumption) (by ((repeat refine it_ne ?_ (by decide)); first | assumption | exact it_eq | with_unfolding_all rfl)) ?_))); with_reducible refine i_int (fun _ _ => ?_))
  refine i_lst S.head (by decide) (by decide) rfl ?_
  with_reducible refine i_int (fun _ _ => ?_)
  with_reducible refine i_div (by decide) (fun _ _ => ?_) (PyProof.noPylong_small (by decide))
  have S := S.weak (led' := [(box, Bx sb), (sb, Sq)]) rfl (by
    intro p hp
    rcases List.mem_cons.mp hp with rfl | hp
    · obtain ⟨o, e1, r⟩ := S.head; exact ⟨o, e1, _, _, _, _, by (first | lia | omega), r⟩
    · rw [List.mem_singleton.mp hp]
      obtain ⟨o, e1, r⟩ := S.second; exact ⟨o, e1, vs, hne, hlen, hint, r⟩)
  exact K _ _ _ _ (Int.fdiv_nonneg z0 (by decide)) (by rw [Int.fdiv_eq_ediv_of_nonneg _ (by decide)]; (first | lia | omega)) (S.done rfl)


-- F24
/-- the own names of a comprehension -/
noncomputable def NsP (mC : Str → Option Value) : Kd := fun o => ∃ es ep, o.data = .dict es ep ∧ StrKeys es ∧ ∀ name, nsFind es name = mC name
theorem At.nsp {mC : Str → Option Value} (x : At h a (NsP mC)) : h.Ns a mC := let ⟨o, e, es, ep, r⟩ := x; ⟨o, es, ep, e, r⟩
theorem At.ofNsp {mC : Str → Option Value} (x : h.Ns a mC) : At h a (NsP mC) := let ⟨o, es, ep, e, r⟩ := x; ⟨o, e, es, ep, r⟩
theorem y_loc {x : Str} {pos : Pos} {v : Value} {mC : Str → Option Value} {C : Addr} {cl : List (Str × Addr)} (hC : At h C (NsP mC)) (hv : mC x = some v) (H : Q v (Mk s h t))
    (hk : (relabel scope env).kind = .function := by with_unfolding_all rfl) (hl : (compEnvC scope cl C env).kindOf x = some .local := by with_unfolding_all rfl) (hd : (x == ("__debug__" : Str)) = false := by decide) :
    wpAny M A (eval (.Name x pos) (compEnvC scope cl C env)) Q E (Mk s h t) := wpAny_Name (wpAny_loadName_local hk hl hC.nsp hv H) hd
theorem y_glob {x : Str} {pos : Pos} {v : Value} {C : Addr} {cl : List (Str × Addr)} (g : G c h) (hv : c.mg x = some v) (H : Q v (Mk s h t)) (hg : env.globals = mainGlobals := by with_unfolding_all rfl)
    (hk : (relabel scope env).kind = .function := by with_unfolding_all rfl) (hx : (compEnvC scope cl C env).kindOf x = some .globalImplicit := by with_unfolding_all rfl) (hd : (x == ("__debug__" : Str)) = false := by decide) :
    wpAny M A (eval (.Name x pos) (compEnvC scope cl C env)) Q E (Mk s h t) := Name_function_global hk hx (loadGlobal_global (by show h.Ns env.globals _; exact hg ▸ g.T.g) hv H) hd
theorem y_blt {x : Str} {pos : Pos} {v : Value} {C : Addr} {cl : List (Str × Addr)} (g : G c h) (hn : c.mg x = none ∧ c.mb x = some v) (H : Q v (Mk s h t)) (hg : env.globals = mainGlobals := by with_unfolding_all rfl) (hb : builtinsNs = env.builtins := by with_unfolding_all rfl)
    (hk : (relabel scope env).kind = .function := by with_unfolding_all rfl) (hx : (compEnvC scope cl C env).kindOf x = some .globalImplicit := by with_unfolding_all rfl) (hd : (x == ("__debug__" : Str)) = false := by decide) :
    wpAny M A (eval (.Name x pos) (compEnvC scope cl C env)) Q E (Mk s h t) := Name_function_global hk hx (loadGlobal_builtin (by show h.Ns env.globals _; exact hg ▸ g.T.g) hn.1 (by show h.Ns env.builtins _; rw [← hb]; exact g.T.b) hn.2 H) hd
theorem y_store {x : Str} {v : Value} {mC : Str → Option Value} {C : Addr} {cl : List (Str × Addr)} {QU : Unit → Shared → Prop} (S : St c outer D h0 L m ((C, NsP mC) :: led) h)
    (H : ∀ h' t' mC', mC' x = some v → (∀ y, y ≠ x → mC' y = mC y) → St c outer D h0 L m ((C, NsP mC') :: led) h' → QU () (Mk s h' t'))
    (hk : scope.kind = .function := by with_unfolding_all rfl) (hl : (compEnvC scope cl C env).kindOf x = some .local := by with_unfolding_all rfl) :
    wpAny M A (storeName (compEnvC scope cl C env) x v) QU E (Mk s h t) :=
  wpAny_storeName_local hl S.head.nsp (fun h' hn hs => H h' _ _ (if_pos rfl) (fun y ne => if_neg ne) (S.upd hs (At.ofNsp hn)))
    (by show (scope.kind == .class || (scope.kind == .module && C != env.globals)) = false; rw [hk]; rfl)

/-- a comprehension's run -/
noncomputable def CompGo (M : Model) (A : Around) (E : Value → Shared → Prop) (env : Env) (scope : Scope) (cl : List (Str × Addr)) (elt target iter : Expr) (pos : Pos) (use : Option (Value → Sem Unit)) (Q : Value → Shared → Prop) (it : Value) (s : Shared) : Prop :=
  wpAny M A (newList []) (fun acc s₃ => wpAny M A (newFunctionEnv scope env.globals cl [] env.qual none .none (some env)) (fun cenv s₄ =>
    codeAny M A (.compStart (.ListComp elt [⟨target, iter, [], 0⟩] scope pos) 0 it acc { cenv with scope := relabel scope env }) (compPost M A E use Q acc cenv.locals) s₄) E s₃) E s
theorem x_comp {elt target iter : Expr} {pos : Pos} {cl : List (Str × Addr)} (hclos : closureFor scope env = pure cl)
    (H : wpAny M A (eval iter env) (fun x s₁ => wpAny M A (pyIter x) (CompGo M A E env scope cl elt target iter pos none Q) E s₁) E s)
    (hkind : scope.kind = .function := by with_unfolding_all rfl) (hnames : ∀ x ∈ scope.names, x.2 = .local → scope.names.lookup x.1 = some .local := by decide)
    (hs : ∀ x, foldedSetIterable iter env x = pure x := by intro _; with_unfolding_all rfl) :
    wpAny M A (eval (.ListComp elt [⟨target, iter, [], 0⟩] scope pos) env) Q E s := by
  rw [eval_ListComp]
  exact wpAny_comprehension_free (use := none) rfl hs hclos hkind hnames H

theorem x_asgComp {elt target iter : Expr} {y : Str} {py pos spos : Pos} {cl : List (Str × Addr)} {rest : List Stmt} {QF : Flow → Shared → Prop} (hclos : closureFor scope env = pure cl)
    (H : wpAny M A (eval iter env) (fun x s₁ => wpAny M A (pyIter x) (CompGo M A E env scope cl elt target iter pos (some (assign (.Name y py) env)) (fun _ s' => wpAny M A (execs rest env) QF E s')) E s₁) E s)
    (hsw : swapsWith (.ListComp elt [⟨target, iter, [], 0⟩] scope pos) (some (.Name y py)) spos.line env = pure true := by with_unfolding_all rfl)
    (hkind : scope.kind = .function := by with_unfolding_all rfl) (hnames : ∀ x ∈ scope.names, x.2 = .local → scope.names.lookup x.1 = some .local := by decide)
    (hs : ∀ x, foldedSetIterable iter env x = pure x := by intro _; with_unfolding_all rfl) :
    wpAny M A (execs (.Assign [.Name y py] (.ListComp elt [⟨target, iter, [], 0⟩] scope pos) spos :: rest) env) QF E s := by
  refine x_cons ?_
  rw [exec_Assign_Name_used _ _ _ _ hsw]
  refine wpAny_bind (wpAny_standAt (wpAny_bind ?_))
  show wpAny _ A (do let _ ← comprehension (.ListComp elt [⟨target, iter, [], 0⟩] scope pos) scope env _ (newList []) false (eval iter env) (some (assign (.Name y py) env))) _ _ s
  exact wpAny_bind (wpAny_mono (wpAny_comprehension_free (use := some (assign (.Name y py) env)) (Q := fun _ s' => wpAny M A (execs rest env) QF E s') rfl hs hclos hkind hnames H) (fun _ s' hq => wpAny_pure (wpAny_pure hq)) fun _ _ e => e)

theorem code_compLoop {elt target iter : Expr} {pos : Pos} {it acc : Value} {R : Result → Shared → Prop} (I : Nat → Shared → Prop)
    (turn : ∀ n s EB, I n s → wpAny (model p w) A (pyNext it) (fun r s₁ => match r with
      | none => R (.ok .next) s₁
      | some v => wpAny (model p w) A (letOwnedTupleGo target it v) (fun _ s₁' => wpAny (model p w) A (assign target env v) (fun _ s₂ => wpAny (model p w) A (eval elt env) (fun x s₃ =>
          wpAny (model p w) A (call (.builtin "list.append") [acc, x]) (fun _ s₄ => ∃ m, m < n ∧ I m s₄) EB s₃) EB s₂) EB s₁') EB s₁) EB s)
    (n : Nat) (h : I n s) : codeAny (model p w) A (.compLoop (.ListComp elt [⟨target, iter, [], 0⟩] scope pos) 0 it acc env) R s := by
  refine codeAny_loop rfl I (fun n s hI => ?_) n h
  show wpAny _ _ ((compTurn (.ListComp elt [⟨target, iter, [], 0⟩] scope pos) 0 it acc env).onRaise (fun x => do noteFrame x env; theTreesLotGoes x)) _ _ s
  refine wpAny_noted ?_
  rw [compTurn_list1]
  refine wpAny_bind (wpAny_standAt (wpAny_bind (wpAny_mono (turn n s _ hI) (fun r s₁ h₁ => ?_) fun _ _ h' => h')))
  cases r with
  | none => exact wpAny_pure h₁
  | some v =>
    exact wpAny_bind (wpAny_mono h₁ (fun _ s₁' h₁ => wpAny_bind (wpAny_mono h₁ (fun _ s₂ h₂ => wpAny_bind (wpAny_bind (wpAny_mono h₂ (fun x s₃ h₃ => wpAny_bind (wpAny_mono h₃
      (fun _ s₄ h₄ => wpAny_pure (wpAny_pure ⟨rfl, h₄⟩)) fun _ _ h' => h')) fun _ _ h' => h'))) fun _ _ h' => h')) fun _ _ h' => h')

theorem comp_goU {elt target iter : Expr} {pos : Pos} {cl : List (Str × Addr)} {I : Value} {use : Option (Value → Sem Unit)} (k : Nat) (J : Nat → List Value → Led → Prop) (S : St c outer D h0 L m led h) (hJ : J 0 [] led) (hk : k ≤ 1000000)
    (hself : ∀ h t Q E, St c outer D h0 L m led h → Q I (Mk s h t) → wpAny (model pw c.w) A (pyIter I) Q E (Mk s h t))
    (turn : ∀ i ys led h t C F mC EB, i < k → ys.length = i → St c outer D h0 L m ((C, NsP mC) :: (F, LN ys) :: led) h → J i ys led → wpAny (model pw c.w) A (pyNext I) (fun r s₁ => match r with
      | none => False
      | some v => wpAny (model pw c.w) A (letOwnedTupleGo target I v) (fun _ s₁' => wpAny (model pw c.w) A (assign target (compEnvC scope cl C env) v) (fun _ s₂ => wpAny (model pw c.w) A (eval elt (compEnvC scope cl C env)) (fun y s₃ =>
          ∃ led h t mC, s₃ = Mk s h t ∧ St c outer D h0 L m ((C, NsP mC) :: (F, LN ys) :: led) h ∧ J (i + 1) (ys ++ [y]) led) EB s₂) EB s₁') EB s₁) EB (Mk s h t))
    (last : ∀ ys led h t C F mC EB, ys.length = k → h0.get? C = none → h0.get? F = none → St c outer D h0 L m ((C, NsP mC) :: (F, LN ys) :: led) h → J k ys led → wpAny (model pw c.w) A (pyNext I) (fun r s₁ => match r with
      | none => compPost (model pw c.w) A E use Q (.ref F) C (.ok .next) s₁
      | some _ => False) EB (Mk s h t))
    (hcell : ∀ x ∈ scope.names, x.2 ≠ .cell := by decide) (hkind : scope.kind = .function := by with_unfolding_all rfl) :
    CompGo (model pw c.w) A E env scope cl elt target iter pos use Q I (Mk s h t) := by
  unfold CompGo
  refine wpAny_newObj_type (wpAny_newFunctionEnv hcell (by intro y hy; simp at hy) (fun h₁ hns hsb => ?_) hkind)
  dsimp only at hns hsb ⊢
  have S1 := S.push { cls := .type "list", data := .seq ([] : List Value).toArray } (LN []) ⟨rfl, rfl, _, rfl⟩
  have S2 := S1.push { cls := .type "dict", data := .dict #[] } (fun _ => True) trivial
  have S3 := S2.upd hsb (At.ofNsp hns)
  have c0 : h0.get? (h.push { cls := .type "list", data := .seq ([] : List Value).toArray }).objs.size = none := S1.old (new_size _)
  have f0 : h0.get? h.objs.size = none := S.old (new_size h)
  have loop : codeAny (model pw c.w) A (.compLoop (.ListComp elt [⟨target, iter, [], 0⟩] scope pos) 0 I (.ref h.objs.size) (compEnvC scope cl (h.push { cls := .type "list", data := .seq ([] : List Value).toArray }).objs.size env))
      (compPost (model pw c.w) A E use Q (.ref h.objs.size) (h.push { cls := .type "list", data := .seq ([] : List Value).toArray }).objs.size) (Mk s h₁ t) := by
    refine code_compLoop (fun n s' => ∃ i ys led h2 t2 mC, n = k - i ∧ i ≤ k ∧ ys.length = i ∧ s' = Mk s h2 t2 ∧ St c outer D h0 L m (((h.push { cls := .type "list", data := .seq ([] : List Value).toArray }).objs.size, NsP mC) :: (h.objs.size, LN ys) :: led) h2 ∧ J i ys led) (fun n s' EB hI => ?_) (k - 0)
      ⟨0, [], led, h₁, t, _, rfl, Nat.zero_le _, rfl, rfl, S3, hJ⟩
    obtain ⟨i, ys, led2, h2, t2, mC, rfl, hi, hl, rfl, S4, hJ4⟩ := hI
    by_cases q : i < k
    · refine wpAny_mono (turn i ys led2 h2 t2 _ _ mC EB q hl S4 hJ4) (fun r s₁ z => ?_) fun _ _ z => z
      cases r with
      | none => exact z.elim
      | some v =>
        refine wpAny_mono z (fun _ s₂ z => wpAny_mono z (fun _ s₃ z => wpAny_mono z (fun y s₄ z => ?_) fun _ _ z => z) fun _ _ z => z) fun _ _ z => z
        obtain ⟨led5, h5, t5, mC5, rfl, S5, hJ5⟩ := z
        refine k_append (S5.front 1 rfl) (by (first | lia | omega)) (fun h6 S6 => ?_)
        exact ⟨k - (i + 1), by (first | lia | omega), i + 1, ys ++ [y], led5, h6, t5, mC5, rfl, q, by simp [hl], rfl, S6.front 1 rfl, hJ5⟩
    · obtain rfl : i = k := Nat.le_antisymm hi (Nat.not_lt.mp q)
      refine wpAny_mono (last ys led2 h2 t2 _ _ mC EB hl c0 f0 S4 hJ4) (fun r s₁ z => ?_) fun _ _ z => z
      cases r with
      | some v => exact z.elim
      | none => exact z
  refine codeAny_compStart_list loop ?_
  refine hself h₁ t _ _ ((S3.drop 1).drop 1) loop
theorem comp_end {C F : Addr} {mC : Str → Option Value} {ys : List Value} (c0 : h0.get? C = none) (S : St c outer D h0 L m ((C, NsP mC) :: (F, LN ys) :: led) h)
    (K : ∀ h', St c outer D h0 L m ((F, LN ys) :: led) h' → Q (.ref F) (Mk s h' t)) : compPost (model pw c.w) A E none Q (.ref F) C (.ok .next) (Mk s h t) :=
  ⟨mC, S.head.nsp, fun h' sb => K h' (S.lose c0 fun b o ne e => (sb.2 b ne).trans e)⟩
theorem comp_endU {C F : Addr} {mC : Str → Option Value} {ys : List Value} {y : Str} {py : Pos} (c0 : h0.get? C = none) (S : St c outer D h0 L m ((C, NsP mC) :: (F, LN ys) :: led) h)
    (K : ∀ h' t', St c outer D h0 L (fun z => if z = y then some (.ref F) else m z) ((F, LN ys) :: led) h' → Q .none (Mk s h' t'))
    (hk : scope.kind = .function := by with_unfolding_all rfl) (hl : (envY name scope L a cd cY).kindOf y = some .local := by with_unfolding_all rfl) :
    compPost (model pw c.w) A E (some (assign (.Name y py) (envY name scope L a cd cY))) Q (.ref F) C (.ok .next) (Mk s h t) := by
  show wpAny _ _ (assign (.Name y py) (envY name scope L a cd cY) (.ref F)) _ _ _
  exact wpAny_assign_Name (x_store S (fun h1 t1 S1 => ⟨mC, S1.head.nsp, fun h' sb => K h' t1 (S1.lose c0 fun b o ne e => (sb.2 b ne).trans e)⟩) hk hl)


-- F25
theorem sub_of_ix {α : Type} {l : List α} : ∀ {ix : List Nat}, ix.Nodup → l.Nodup → (ix.filterMap fun i => l[i]?).Nodup
  | [], _, _ => List.nodup_nil
  | i :: ix, hn, hl => by
    obtain ⟨n1, n2⟩ := List.nodup_cons.mp hn
    rw [List.filterMap_cons]
    cases q : l[i]? with
    | none => exact sub_of_ix n2 hl
    | some x =>
      refine List.nodup_cons.mpr ⟨fun hm => ?_, sub_of_ix n2 hl⟩
      obtain ⟨j, hj, e⟩ := List.mem_filterMap.mp hm
      obtain ⟨a1, e1⟩ := List.getElem?_eq_some_iff.mp q
      obtain ⟨a2, e2⟩ := List.getElem?_eq_some_iff.mp e
      exact n1 ((List.getElem_inj hl).mp (e2.trans e1.symm) ▸ hj)
/-- the ledger's entries at these places -/
theorem St.pick (S : St c outer D h0 L m led h) (ix : List Nat) (hn : ix.Nodup := by decide) : St c outer D h0 L m (ix.filterMap fun i => led[i]?) h := by
  refine S.sub ?_ fun p hp => ?_
  · have z := sub_of_ix hn S.nd
    rw [List.map_filterMap]
    have e : (fun i : Nat => Option.map (fun q : Addr × Kd => q.1) led[i]?) = fun i => (led.map (·.1))[i]? := by funext i; rw [List.getElem?_map]
    rw [e]; exact z
  · obtain ⟨i, _, e⟩ := List.mem_filterMap.mp hp
    exact List.mem_of_getElem? e
theorem St.pickA {X vl : Led} (S : St c outer D h0 L m (X ++ vl) h) (ix : List Nat) (hn : ix.Nodup := by decide) : St c outer D h0 L m ((ix.filterMap fun i => X[i]?) ++ vl) h := by
  have S1 := (S.sublist (List.sublist_append_left X vl)).pick ix hn
  have nd := S.nd
  rw [List.map_append, List.nodup_append] at nd
  refine S.sub ?_ fun p hp => ?_
  · rw [List.map_append, List.nodup_append]
    refine ⟨S1.nd, nd.2.1, fun a ha b hb => nd.2.2 a ?_ b hb⟩
    obtain ⟨p, hp, rfl⟩ := List.mem_map.mp ha
    obtain ⟨i, _, e⟩ := List.mem_filterMap.mp hp
    exact List.mem_map_of_mem (List.mem_of_getElem? e)
  · rcases List.mem_append.mp hp with hp | hp
    · obtain ⟨i, _, e⟩ := List.mem_filterMap.mp hp
      exact List.mem_append_left _ (List.mem_of_getElem? e)
    · exact List.mem_append_right _ hp
theorem self_tup {I a : Addr} {i : Nat} {led : Led} (S : St c outer D h0 L m ((I, ItT a i) :: led) h) (H : Q (.ref I) (Mk s h t)) : wpAny (model pw c.w) A (pyIter (.ref I)) Q E (Mk s h t) := wpAny_pyIter_tupleiter (s := Mk s h t) S.head.itT H
theorem self_list {I a : Addr} {i : Nat} {led : Led} (S : St c outer D h0 L m ((I, ItL a i) :: led) h) (H : Q (.ref I) (Mk s h t)) : wpAny (model pw c.w) A (pyIter (.ref I)) Q E (Mk s h t) := wpAny_pyIter_listiter (s := Mk s h t) S.head.itL H
theorem self_rng {I : Addr} {x y z : Int} {led : Led} (S : St c outer D h0 L m ((I, ItR x y z) :: led) h) (H : Q (.ref I) (Mk s h t)) : wpAny (model pw c.w) A (pyIter (.ref I)) Q E (Mk s h t) := wpAny_pyIter_rangeiter (s := Mk s h t) S.head.itR H
theorem y_name {x : Str} {py : Pos} {v : Value} {mC : Str → Option Value} {C : Addr} {it : Value} {cl : List (Str × Addr)} {EB : Value → Shared → Prop} {R : Shared → Prop} (S : St c outer D h0 L m ((C, NsP mC) :: led) h)
    (H : ∀ h' t' mC', mC' x = some v → (∀ y, y ≠ x → mC' y = mC y) → St c outer D h0 L m ((C, NsP mC') :: led) h' → R (Mk s h' t'))
    (hk : scope.kind = .function := by with_unfolding_all rfl) (hl : (compEnvC scope cl C env).kindOf x = some .local := by with_unfolding_all rfl) :
    wpAny (model p w) A (letOwnedTupleGo (.Name x py) it v) (fun _ s₁' => wpAny (model p w) A (assign (.Name x py) (compEnvC scope cl C env) v) (fun _ s₂ => R s₂) EB s₁') EB (Mk s h t) :=
  wpAny_of_eq (a := ()) rfl (wpAny_assign_Name (y_store S H hk hl))
/-- bytes values of octets -/
inductive BL : List (List Int) → List Value → Prop
  | nil : BL [] []
  | cons {l : List Int} {b : Array UInt8} {u : Tok} {ls : List (List Int)} {vs : List Value} (hb : KBw.bInts b = l) (r : BL ls vs) : BL (l :: ls) (.bytes b u :: vs)
theorem BL.app {ls ls' : List (List Int)} {vs vs' : List Value} (x : BL ls vs) (y : BL ls' vs') : BL (ls ++ ls') (vs ++ vs') := by
  induction x with
  | nil => exact y
  | cons hb _ ih => exact .cons hb ih
theorem BL.snoc {ls : List (List Int)} {vs : List Value} {l : List Int} {b : Array UInt8} {u : Tok} (x : BL ls vs) (hb : KBw.bInts b = l) : BL (ls ++ [l]) (vs ++ [.bytes b u]) := x.app (.cons hb .nil)
theorem BL.len {ls : List (List Int)} {vs : List Value} (x : BL ls vs) : vs.length = ls.length := by
  induction x with
  | nil => rfl
  | cons _ _ ih => rw [List.length_cons, List.length_cons, ih]
theorem BL.get {ls : List (List Int)} {vs : List Value} (x : BL ls vs) : ∀ {i : Nat} {l : List Int}, ls[i]? = some l → ∃ b u, vs[i]? = some (.bytes b u) ∧ KBw.bInts b = l := by
  induction x with
  | nil => intro i l h; simp at h
  | cons hb _ ih =>
    intro i l h
    cases i with
    | zero => cases h; exact ⟨_, _, rfl, hb⟩
    | succ i => exact ih (by simpa using h)
/-- what put_address writes -/
noncomputable def b16 (k : Int) : List Int := [k / 256, k % 256]
theorem b16_ok {k : Int} (h : 0 ≤ k ∧ k < 65536) : ∀ x ∈ b16 k, 0 ≤ x ∧ x < 256 := fun x hx => by
  have : x = k / 256 ∨ x = k % 256 := by simpa [b16] using hx
  (first | lia | omega)
noncomputable def putAddr : List Int × Int × List Int × Int × List Int × List Int → List Int
  | (l1, i1, l2, i2, l3, l4) => l1 ++ b16 i1 ++ l2 ++ b16 i2 ++ [(l3.length : Int)] ++ l3 ++ l4
set_option maxHeartbeats 4000000 in
theorem spec_put_address {hB : Heap} {T : Addr} {l1 l2 l3 l4 : List Int} {i1 i2 : Int} {b1 b2 b3 b4 : Array UInt8} {v1 v2 v3 v4 w1 w2 : Tok}
    (hT : At hB T (Tup [.bytes b1 v1, .int i1 w1, .bytes b2 v2, .int i2 w2, .bytes b3 v3, .bytes b4 v4])) (nT : T ∉ fsOf outer) (h1 : KBw.bInts b1 = l1) (h2 : KBw.bInts b2 = l2) (h3 : KBw.bInts b3 = l3) (h4 : KBw.bInts b4 = l4)
    (z1 : l1.length ≤ 100) (z2 : l2.length ≤ 100) (z3 : l3.length ≤ 100) (z4 : l4.length ≤ 100) (p1 : 0 ≤ i1 ∧ i1 < 65536) (p2 : 0 ≤ i2 ∧ i2 < 65536) (C : Cx c (n + 1) A outer hB none) (g : G c hB)
    (K : ∀ b u h' t', KBw.bInts b = putAddr (l1, i1, l2, i2, l3, l4) → Ret c (fsOf outer) hB [] [] h' → Q (.bytes b u) (Mk s h' t')) :
    wpAny (model pw c.w) A (call (.ref 210) [.ref T]) Q E (Mk s hB t) := by
  refine enter (binds := [(Str.ofString "told", .ref T)]) C g pre_nil (by rfl) (by rfl) rfl (by rfl) (by decide) (fun L h t2 S C2 => ?_)
  generalize (fun e s' => wpAny (model pw c.w) _ (leaving _ e) _ _ s') = EF
  refine x_asgT ?_
  with_reducible refine x_loc (by assumption) (by ((repeat refine it_ne ?_ (by decide)); first | assumption | exact it_eq | with_unfolding_all rfl)) ?_
  refine x_unp S (S.base hT nT) C2.hd (fun h S _ => ?_)
  refine a_name S (fun h t S => ?_)
  refine a_name S (fun h t S => ?_)
  refine a_name S (fun h t S => ?_)
  refine a_name S (fun h t S => ?_)
  refine a_name S (fun h t S => ?_)
  refine a_name S (fun h t S => ?_)
  refine a_nil ?_
  obtain ⟨m2, em, S⟩ := S.op
  have f1 : m2 (Str.ofString "four") = some (.bytes b1 v1) := by rw [em]; ((repeat refine it_ne ?_ (by decide)); first | assumption | exact it_eq | with_unfolding_all rfl)
  have f2 : m2 (Str.ofString "port") = some (.int i1 w1) := by rw [em]; ((repeat refine it_ne ?_ (by decide)); first | assumption | exact it_eq | with_unfolding_all rfl)
  have f3 : m2 (Str.ofString "sixteen") = some (.bytes b2 v2) := by rw [em]; ((repeat refine it_ne ?_ (by decide)); first | assumption | exact it_eq | with_unfolding_all rfl)
  have f4 : m2 (Str.ofString "other_port") = some (.int i2 w2) := by rw [em]; ((repeat refine it_ne ?_ (by decide)); first | assumption | exact it_eq | with_unfolding_all rfl)
  have f5 : m2 (Str.ofString "cid") = some (.bytes b3 v3) := by rw [em]; ((repeat refine it_ne ?_ (by decide)); first | assumption | exact it_eq | with_unfolding_all rfl)
  have f6 : m2 (Str.ofString "token") = some (.bytes b4 v4) := by rw [em]; ((repeat refine it_ne ?_ (by decide)); first | assumption | exact it_eq | with_unfolding_all rfl)
  clear em
  refine x_asgComp (cl := []) (by with_unfolding_all rfl) ?_
  (with_reducible refine x_tupQ (x_arg (x_loc (by assumption) (by ((repeat refine it_ne ?_ (by decide)); first | assumption | exact it_eq | with_unfolding_all rfl)) ?_)); with_reducible refine x_arg (x_loc (by assumption) (by ((repeat refine it_ne ?_ (by decide)); first | assumption | exact it_eq | with_unfolding_all rfl)) ?_); with_reducible refine x_argN ?_)
  refine mk_tupQ S (Nat.le_of_ble_eq_true rfl) (fun U h U0 S _ => ?_)
  refine iter_tup S S.head (fun I h I0 S _ => ?_)
  refine comp_goU 2 (fun i ys led => led = [(I, ItT U i), (U, Tup [.int i1 w1, .int i2 w2])] ∧ BL ([b16 i1, b16 i2].take i) ys) S ⟨rfl, .nil⟩ (by decide) (fun h t Q E S H => self_tup S H) (fun i ys led h t CC F mC EB hi hl S hJ => ?_) (fun ys led h t CC F mC EB hl cn fn S hJ => ?_)
  · obtain ⟨rfl, hb⟩ := hJ
    obtain ⟨k, kt, hk, k0, k1, hb16⟩ : ∃ k kt, [Value.int i1 w1, .int i2 w2][i]? = some (.int k kt) ∧ 0 ≤ k ∧ k < 65536 ∧ [b16 i1, b16 i2].take (i + 1) = [b16 i1, b16 i2].take i ++ [b16 k] := by
      have : i = 0 ∨ i = 1 := by (first | lia | omega)
      rcases this with rfl | rfl
      · exact ⟨i1, w1, rfl, p1.1, p1.2, rfl⟩
      · exact ⟨i2, w2, rfl, p2.1, p2.2, rfl⟩
    refine next_tup (S.front 2 rfl) (S.get 3 rfl) hk (fun h S _ => ?_)
    refine y_name (S.front 1 rfl) (fun h t mC1 e1 _ S => ?_)
    refine x_call ?_
    refine y_blt S.g (b_bytes S.g) ?_
    with_reducible refine x_cwT ?_
    with_reducible refine x_arg (x_lstQ (x_arg (wpAny_BinOp ?_)))
    refine y_loc S.head e1 ?_
    with_reducible refine i_int (fun _ _ => ?_)
    with_reducible refine i_div (by decide) (fun _ _ => ?_) (PyProof.noPylong_small (by decide))
    with_reducible refine x_arg (wpAny_BinOp ?_)
    refine y_loc S.head e1 ?_
    with_reducible refine i_int (fun _ _ => ?_)
    with_reducible refine i_mod (by decide) (fun _ _ => ?_) (PyProof.noPylong_small (by decide))
    with_reducible refine x_argN ?_
    refine mk_listQ S (Nat.le_of_ble_eq_true rfl) (fun B h B0 S _ => ?_)
    with_reducible refine x_argN ?_
    refine k_make (ns := b16 k) S S.head C2.hd ?_ ?_ (by simp [b16]) (fun h b u t S _ hbb => ?_)
    · rw [Int.fdiv_eq_ediv_of_nonneg _ (by decide), Int.fmod_eq_emod_of_nonneg _ (by decide)]; exact .cons _ _ (.cons _ _ .nil)
    · exact fun x hx => b16_ok ⟨k0, k1⟩ x hx
    · exact ⟨_, h, t, _, rfl, S.pick [1, 3, 2, 4], rfl, hb16 ▸ hb.snoc hbb⟩
  · obtain ⟨rfl, hb⟩ := hJ
    refine end_tup (S.front 2 rfl) I0 (S.get 3 rfl) (by rfl) C2.hd (fun h S => ?_)
    refine comp_endU cn S (fun h t S => ?_)
    obtain ⟨p1, x1, e1, hb1⟩ := hb.get (i := 0) rfl
    obtain ⟨p2, x2, e2, hb2⟩ := hb.get (i := 1) rfl
    (with_reducible refine x_ret (wpAny_BinOp (wpAny_BinOp (wpAny_BinOp (wpAny_BinOp (wpAny_BinOp (wpAny_BinOp (x_loc (by assumption) (by ((repeat refine it_ne ?_ (by decide)); first | assumption | exact it_eq | with_unfolding_all rfl)) ?_))))))); with_reducible refine Subscript_ (x_loc (by assumption) (by ((repeat refine it_ne ?_ (by decide)); first | assumption | exact it_eq | with_unfolding_all rfl)) ?_); with_reducible refine i_int (fun _ _ => ?_))
    refine i_lst S.head.ln (by decide) (by decide) e1 ?_
    skip
    with_reducible refine k_add h1 hb1 (by simp [b16]; (first | lia | omega)) (fun u t k1 => ?_)
    with_reducible refine x_loc (by assumption) (by ((repeat refine it_ne ?_ (by decide)); first | assumption | exact it_eq | with_unfolding_all rfl)) ?_
    with_reducible refine k_add k1 h2 (by simp [b16]; (first | lia | omega)) (fun u t k2 => ?_)
    (with_reducible refine Subscript_ (x_loc (by assumption) (by ((repeat refine it_ne ?_ (by decide)); first | assumption | exact it_eq | with_unfolding_all rfl)) ?_); with_reducible refine i_int (fun _ _ => ?_))
    refine i_lst S.head.ln (by decide) (by decide) e2 ?_
    skip
    with_reducible refine k_add k2 hb2 (by simp [b16]; (first | lia | omega)) (fun u t k3 => ?_)
    (with_reducible refine x_call (x_blt S (b_bytes S.g) (x_cwT (x_arg (x_lstQ (x_arg (x_call (x_blt S (b_len S.g) (x_cwB (x_arg (x_loc (by assumption) (by ((repeat refine it_ne ?_ (by decide)); first | assumption | exact it_eq | with_unfolding_all rfl)) ?_)))))))))); with_reducible refine x_argN ?_)
    refine k_len h3 (by (first | lia | omega)) (fun _ _ => ?_)
    with_reducible refine x_argN ?_
    refine mk_listQ S (Nat.le_of_ble_eq_true rfl) (fun B h B0 S _ => ?_)
    with_reducible refine x_argN ?_
    refine k_make S S.head C2.hd (.cons _ _ .nil) (fun x hx => ?_) (by simp) (fun h b u t S _ hbb => ?_)
    · obtain rfl := List.mem_singleton.mp hx; (first | lia | omega)
    skip
    with_reducible refine k_add k3 hbb (by simp [b16]; (first | lia | omega)) (fun u t k4 => ?_)
    with_reducible refine x_loc (by assumption) (by ((repeat refine it_ne ?_ (by decide)); first | assumption | exact it_eq | with_unfolding_all rfl)) ?_
    with_reducible refine k_add k4 h3 (by simp [b16]; (first | lia | omega)) (fun u t k5 => ?_)
    with_reducible refine x_loc (by assumption) (by ((repeat refine it_ne ?_ (by decide)); first | assumption | exact it_eq | with_unfolding_all rfl)) ?_
    with_reducible refine k_add k5 h4 (by simp [b16]; (first | lia | omega)) (fun u t k6 => ?_)
    exact K _ u h t k6 (S.bare.done rfl)


-- F26
/-! expressions that leave the ledger as it stands -/
structure Ev (c : Ct) (outer : List Env) (D : List Addr) (h0 : Heap) (L : Addr) (m : Str → Option Value) (led : Led) (A : Around) (env : Env) (e : Expr) (P : Value → Prop) : Prop where
  run : ∀ {Q : Value → Shared → Prop} {E : Value → Shared → Prop} {s : Shared} {h : Heap} {t : Nat}, St c outer D h0 L m led h → (∀ v h' t', P v → St c outer D h0 L m led h' → Q v (Mk s h' t')) → wpAny (model pw c.w) A (eval e env) Q E (Mk s h t)
structure Evs (c : Ct) (outer : List Env) (D : List Addr) (h0 : Heap) (L : Addr) (m : Str → Option Value) (led : Led) (A : Around) (env : Env) (es : List Expr) (P : List Value → Prop) : Prop where
  run : ∀ {pos : Pos} {Q : List Value → Shared → Prop} {E : Value → Shared → Prop} {s : Shared} {h : Heap} {t : Nat}, St c outer D h0 L m led h → (∀ v h' t', P v → St c outer D h0 L m led h' → Q v (Mk s h' t')) → wpAny (model pw c.w) A (spliced (backTo pos (starEach es env))) Q E (Mk s h t)
/-- tests -/
structure Tb (c : Ct) (outer : List Env) (D : List Addr) (h0 : Heap) (L : Addr) (m : Str → Option Value) (led : Led) (A : Around) (env : Env) (e : Expr) (P : Bool → Prop) : Prop where
  run : ∀ {Q : Bool → Shared → Prop} {E : Value → Shared → Prop} {s : Shared} {h : Heap} {t : Nat}, St c outer D h0 L m led h → (∀ v h' t', P v → St c outer D h0 L m led h' → Q v (Mk s h' t')) → wpAny (model pw c.w) A (isTrue e env (eval e env)) Q E (Mk s h t)
/-- what a call does that leaves the ledger -/
structure Cl (c : Ct) (outer : List Env) (D : List Addr) (h0 : Heap) (L : Addr) (m : Str → Option Value) (led : Led) (A : Around) (f : Value) (vs : List Value) (P : Value → Prop) : Prop where
  run : ∀ {Q : Value → Shared → Prop} {E : Value → Shared → Prop} {s : Shared} {h : Heap} {t : Nat}, St c outer D h0 L m led h → (∀ v h' t', P v → St c outer D h0 L m led h' → Q v (Mk s h' t')) → wpAny (model pw c.w) A (call f vs) Q E (Mk s h t)
noncomputable def vI (k : Int) : Value → Prop := fun v => ∃ u, v = .int k u
noncomputable def vB (ks : List Int) : Value → Prop := fun v => ∃ b u, v = .bytes b u ∧ KBw.bInts b = ks
noncomputable def vS (x : Str) : Value → Prop := fun v => ∃ u, v = .str x u
/-- an int that … -/
noncomputable def vP (p : Int → Prop) : Value → Prop := fun v => ∃ k u, v = .int k u ∧ p k

section
variable {P P1 P2 : Value → Prop} {PL : List Value → Prop} {x : Str} {pos np : Pos} {e e1 e2 : Expr} {es : List Expr} {k : Nat} {v w1 : Value} {fid : String} {f : Addr}
theorem Ev.mono (H : Ev c outer D h0 L m led A env e P1) (h : ∀ v, P1 v → P v) : Ev c outer D h0 L m led A env e P := .mk fun S K => H.run S fun v h' t' p => K v h' t' (h v p)
theorem Ev.run' {s : Shared} {h : Heap} {t : Nat} (H : Ev c outer D h0 L m led A env e P) (S : St c outer D h0 L m led h) (K : ∀ v h' t', P v → St c outer D h0 L m led h' → Q v (Mk s h' t')) : wpAny (model pw c.w) A (eval e env) Q E (Mk s h t) := H.run S K
theorem e_loc (hv : m x = some v) (hk : scope.kind = .function := by with_unfolding_all rfl) (hl : (envY name scope L a cd cY).kindOf x = some .local := by with_unfolding_all rfl) (hd : (x == ("__debug__" : Str)) = false := by decide) :
    Ev c outer D h0 L m led A (envY name scope L a cd cY) (.Name x pos) (· = v) := .mk fun S K => x_loc S hv (K _ _ _ rfl S) hk hl hd
theorem e_glob (hv : ∀ h, G c h → c.mg x = some v) (hk : scope.kind = .function := by with_unfolding_all rfl) (hl : (envY name scope L a cd cY).kindOf x = some .globalImplicit := by with_unfolding_all rfl) (hd : (x == ("__debug__" : Str)) = false := by decide) :
    Ev c outer D h0 L m led A (envY name scope L a cd cY) (.Name x pos) (· = v) := .mk fun S K => x_glob S (hv _ S.g) (K _ _ _ rfl S) hk hl hd
theorem e_blt (hv : ∀ h, G c h → c.mg x = none ∧ c.mb x = some v) (hk : scope.kind = .function := by with_unfolding_all rfl) (hl : (envY name scope L a cd cY).kindOf x = some .globalImplicit := by with_unfolding_all rfl) (hd : (x == ("__debug__" : Str)) = false := by decide) :
    Ev c outer D h0 L m led A (envY name scope L a cd cY) (.Name x pos) (· = v) := .mk fun S K => x_blt S (hv _ S.g) (K _ _ _ rfl S) hk hl hd
theorem e_int {i : Int} : Ev c outer D h0 L m led A env (.Constant (.int i) k pos) (vI i) := .mk fun S K => i_int fun u t' => K _ _ _ ⟨u, rfl⟩ S
theorem e_str {i : Str} : Ev c outer D h0 L m led A env (.Constant (.str i) k pos) (vS i) := .mk fun S K => i_str fun u t' => K _ _ _ ⟨u, rfl⟩ S
theorem e_byt {i : List UInt8} {ks : List Int} (hk : i.map (fun b => (b.toNat : Int)) = ks := by rfl) : Ev c outer D h0 L m led A env (.Constant (.bytes i) k pos) (vB ks) := .mk fun S K => i_bytes fun u t' => K _ _ _ ⟨_, u, rfl, by unfold KBw.bInts; exact hk⟩ S
theorem e_none : Ev c outer D h0 L m led A env (.Constant .none k pos) (· = .none) := .mk fun S K => i_none (K _ _ _ rfl S)
theorem e_bool {b : Bool} : Ev c outer D h0 L m led A env (.Constant (.bool b) k pos) (· = .bool b) := .mk fun S K => i_bool (K _ _ _ rfl S)

theorem e_bin {op : Operator} (H1 : Ev c outer D h0 L m led A env e1 P1) (H2 : Ev c outer D h0 L m led A env e2 P2)
    (H : ∀ v1 v2, P1 v1 → P2 v2 → ∀ {Q : Value → Shared → Prop} {E : Value → Shared → Prop} {s : Shared} {h : Heap} {t : Nat}, (∀ v t', P v → Q v (Mk s h t')) → wpAny (model pw c.w) A (binaryOp op v1 v2) Q E (Mk s h t)) : Ev c outer D h0 L m led A env (.BinOp e1 op e2 pos) P :=
  .mk fun S K => wpAny_BinOp (H1.run S fun v1 h1 t1 p1 S => H2.run S fun v2 h2 t2 p2 S => H v1 v2 p1 p2 fun v t' p => K v _ t' p S)
variable {i j : Int} {p1 p2 p3 : Int → Prop}
theorem vP.of (h : p1 i) : ∀ v, vI i v → vP p1 v := fun v ⟨u, e⟩ => ⟨i, u, e, h⟩
theorem e_addP (H1 : Ev c outer D h0 L m led A env e1 (vP p1)) (H2 : Ev c outer D h0 L m led A env e2 (vP p2)) (hh : ∀ a b, p1 a → p2 b → p3 (a + b)) : Ev c outer D h0 L m led A env (.BinOp e1 .Add e2 pos) (vP p3) :=
  e_bin H1 H2 fun v1 v2 ⟨a, u, e1, q1⟩ ⟨b, w, e2, q2⟩ Q E s h t K => by subst e1 e2; exact i_add fun _ _ => (K _ _ ⟨_, _, rfl, hh _ _ q1 q2⟩)
theorem e_mulP (H1 : Ev c outer D h0 L m led A env e1 (vP p1)) (H2 : Ev c outer D h0 L m led A env e2 (vP p2)) (ok : ∀ a b, p1 a → p2 b → IntMulOk a b) (hh : ∀ a b, p1 a → p2 b → p3 (a * b)) : Ev c outer D h0 L m led A env (.BinOp e1 .Mult e2 pos) (vP p3) :=
  e_bin H1 H2 fun v1 v2 ⟨a, u, e1, q1⟩ ⟨b, w, e2, q2⟩ Q E s h t K => by subst e1 e2; exact i_mul (fun _ _ => K _ _ ⟨_, _, rfl, hh _ _ q1 q2⟩) (ok _ _ q1 q2)
theorem e_modP (H1 : Ev c outer D h0 L m led A env e1 (vP p1)) (H2 : Ev c outer D h0 L m led A env e2 (vP p2)) (ok : ∀ a b, p1 a → p2 b → 0 < b ∧ Builtin.divisionGoesByPylong a b = false) (hh : ∀ a b, p1 a → p2 b → p3 (a % b)) : Ev c outer D h0 L m led A env (.BinOp e1 .Mod e2 pos) (vP p3) :=
  e_bin H1 H2 fun v1 v2 ⟨a, u, e1, q1⟩ ⟨b, w, e2, q2⟩ Q E s h t K => by
    subst e1 e2
    have o := ok _ _ q1 q2
    refine i_mod (by (first | lia | omega)) (fun _ _ => K _ _ ⟨_, _, rfl, ?_⟩) o.2
    rw [Int.fmod_eq_emod_of_nonneg _ (by (first | lia | omega))]
    exact hh _ _ q1 q2
theorem e_divP (H1 : Ev c outer D h0 L m led A env e1 (vP p1)) (H2 : Ev c outer D h0 L m led A env e2 (vP p2)) (ok : ∀ a b, p1 a → p2 b → 0 < b ∧ Builtin.divisionGoesByPylong a b = false) (hh : ∀ a b, p1 a → p2 b → p3 (a / b)) : Ev c outer D h0 L m led A env (.BinOp e1 .FloorDiv e2 pos) (vP p3) :=
  e_bin H1 H2 fun v1 v2 ⟨a, u, e1, q1⟩ ⟨b, w, e2, q2⟩ Q E s h t K => by
    subst e1 e2
    have o := ok _ _ q1 q2
    refine i_div (by (first | lia | omega)) (fun _ _ => K _ _ ⟨_, _, rfl, ?_⟩) o.2
    rw [Int.fdiv_eq_ediv_of_nonneg _ (by (first | lia | omega))]
    exact hh _ _ q1 q2
theorem e_add (H1 : Ev c outer D h0 L m led A env e1 (vI i)) (H2 : Ev c outer D h0 L m led A env e2 (vI j)) : Ev c outer D h0 L m led A env (.BinOp e1 .Add e2 pos) (vI (i + j)) :=
  e_bin H1 H2 fun v1 v2 ⟨u, e1⟩ ⟨w, e2⟩ Q E s h t K => by subst e1 e2; exact i_add fun _ _ => (K _ _ ⟨_, rfl⟩)
theorem e_sub (H1 : Ev c outer D h0 L m led A env e1 (vI i)) (H2 : Ev c outer D h0 L m led A env e2 (vI j)) : Ev c outer D h0 L m led A env (.BinOp e1 .Sub e2 pos) (vI (i - j)) :=
  e_bin H1 H2 fun v1 v2 ⟨u, e1⟩ ⟨w, e2⟩ Q E s h t K => by subst e1 e2; exact i_sub fun _ _ => (K _ _ ⟨_, rfl⟩)
theorem e_mul (H1 : Ev c outer D h0 L m led A env e1 (vI i)) (H2 : Ev c outer D h0 L m led A env e2 (vI j)) (ok : IntMulOk i j) : Ev c outer D h0 L m led A env (.BinOp e1 .Mult e2 pos) (vI (i * j)) :=
  e_bin H1 H2 fun v1 v2 ⟨u, e1⟩ ⟨w, e2⟩ Q E s h t K => by subst e1 e2; exact i_mul (fun _ _ => K _ _ ⟨_, rfl⟩) ok
theorem e_mod (H1 : Ev c outer D h0 L m led A env e1 (vI i)) (H2 : Ev c outer D h0 L m led A env e2 (vI j)) (hj : 0 < j) (ok : Builtin.divisionGoesByPylong i j = false) : Ev c outer D h0 L m led A env (.BinOp e1 .Mod e2 pos) (vI (i % j)) :=
  e_bin H1 H2 fun v1 v2 ⟨u, e1⟩ ⟨w, e2⟩ Q E s h t K => by subst e1 e2; exact i_mod (by (first | lia | omega)) (fun u t' => by rw [Int.fmod_eq_emod_of_nonneg _ (by (first | lia | omega))]; exact K _ _ ⟨u, rfl⟩) ok
theorem e_div (H1 : Ev c outer D h0 L m led A env e1 (vI i)) (H2 : Ev c outer D h0 L m led A env e2 (vI j)) (hj : 0 < j) (ok : Builtin.divisionGoesByPylong i j = false) : Ev c outer D h0 L m led A env (.BinOp e1 .FloorDiv e2 pos) (vI (i / j)) :=
  e_bin H1 H2 fun v1 v2 ⟨u, e1⟩ ⟨w, e2⟩ Q E s h t K => by subst e1 e2; exact i_div (by (first | lia | omega)) (fun u t' => by rw [Int.fdiv_eq_ediv_of_nonneg _ (by (first | lia | omega))]; exact K _ _ ⟨u, rfl⟩) ok
theorem e_pow (H1 : Ev c outer D h0 L m led A env e1 (vI i)) (H2 : Ev c outer D h0 L m led A env e2 (vI j)) (hh : 0 ≤ j ∧ j ≤ 1000000 ∧ i.natAbs < 2 ^ 64) : Ev c outer D h0 L m led A env (.BinOp e1 .Pow e2 pos) (vI (i ^ j.toNat)) :=
  e_bin H1 H2 fun v1 v2 ⟨u, e1⟩ ⟨w, e2⟩ Q E s h t K => by subst e1 e2; exact i_pow hh.1 hh.2.1 hh.2.2 fun _ _ => K _ _ ⟨_, rfl⟩
theorem e_addB {ks ls : List Int} (H1 : Ev c outer D h0 L m led A env e1 (vB ks)) (H2 : Ev c outer D h0 L m led A env e2 (vB ls)) (hz : ks.length + ls.length ≤ 16777216) : Ev c outer D h0 L m led A env (.BinOp e1 .Add e2 pos) (vB (ks ++ ls)) :=
  e_bin H1 H2 fun v1 v2 ⟨b, u, e1, q1⟩ ⟨b', w, e2, q2⟩ Q E s h t K => by subst e1 e2; exact k_add q1 q2 hz fun u t' z => K _ _ ⟨_, _, rfl, z⟩

/-- arguments -/
theorem es_nil : Evs c outer D h0 L m led A env [] (· = []) := .mk fun S K => x_argN (K _ _ _ rfl S)
theorem es_cons (H : Ev c outer D h0 L m led A env e P) (H2 : Evs c outer D h0 L m led A env es PL) (he : starEach (e :: es) env = (false, eval e env) :: starEach es env := by with_unfolding_all rfl) :
    Evs c outer D h0 L m led A env (e :: es) (fun vs => ∃ v r, vs = v :: r ∧ P v ∧ PL r) :=
  .mk fun S K => x_arg (H.run S fun v h' t' p S => H2.run S fun r h' t' p2 S => K _ _ _ ⟨v, r, rfl, p, p2⟩ S) he
theorem es_one (H : Ev c outer D h0 L m led A env e P) (he : starEach [e] env = (false, eval e env) :: starEach [] env := by with_unfolding_all rfl) :
    Evs c outer D h0 L m led A env [e] (fun vs => ∃ v, vs = [v] ∧ P v) :=
  .mk fun S K => x_arg (H.run S fun v h' t' p S => x_argN (K _ _ _ ⟨v, rfl, p⟩ S)) he
theorem es_two (H : Ev c outer D h0 L m led A env e P) (H1 : Ev c outer D h0 L m led A env e1 P1) (he : starEach [e, e1] env = (false, eval e env) :: starEach [e1] env := by with_unfolding_all rfl) (he1 : starEach [e1] env = (false, eval e1 env) :: starEach [] env := by with_unfolding_all rfl) :
    Evs c outer D h0 L m led A env [e, e1] (fun vs => ∃ v v1, vs = [v, v1] ∧ P v ∧ P1 v1) :=
  .mk fun S K => x_arg (H.run S fun v h' t' p S => x_arg (H1.run S fun v1 h' t' p1 S => x_argN (K _ _ _ ⟨v, v1, rfl, p, p1⟩ S)) he1) he
/-- a call of a def of the text, of a built-in, of a type -/
theorem e_call {fn : Str} (H0 : Ev c outer D h0 L m led A env (.Name fn np) (· = .ref f)) (H1 : Evs c outer D h0 L m led A env (e :: es) PL) (H : ∀ vs, PL vs → Cl c outer D h0 L m led A (.ref f) vs P) (hk : keepIn (hd.heap_1 c.w.params) (.ref f) = true := by rfl)
    (he : starEach (e :: es) env = (false, eval e env) :: starEach es env := by with_unfolding_all rfl) (hplain : (backTo pos (starEach es env)).any (·.1) = false := by with_unfolding_all rfl) :
    Ev c outer D h0 L m led A env (.Call (.Name fn np) (e :: es) [] pos) P :=
  .mk fun S K => x_call (H0.run S fun fv h' t' q S => by subst q; exact x_cw hk (H1.run S fun vs h' t' p S => ⟨S.g.X, (H vs p).run S K⟩) he hplain)
theorem e_callB {fn : Str} (H0 : Ev c outer D h0 L m led A env (.Name fn np) (· = .builtin fid)) (H1 : Evs c outer D h0 L m led A env (e :: es) PL) (H : ∀ vs, PL vs → Cl c outer D h0 L m led A (.builtin fid) vs P)
    (he : starEach (e :: es) env = (false, eval e env) :: starEach es env := by with_unfolding_all rfl) (hplain : (backTo pos (starEach es env)).any (·.1) = false := by with_unfolding_all rfl) :
    Ev c outer D h0 L m led A env (.Call (.Name fn np) (e :: es) [] pos) P :=
  .mk fun S K => x_call (H0.run S fun fv h' t' q S => by subst q; exact x_cwB (H1.run S fun vs h' t' p S => (H vs p).run S K) he hplain)
theorem e_len {ks : List Int} (H0 : Ev c outer D h0 L m led A env (.Name x np) (· = .builtin "len")) (H1 : Ev c outer D h0 L m led A env e (vB ks)) (hz : ks.length ≤ 16777216)
    (he : starEach [e] env = (false, eval e env) :: starEach [] env := by with_unfolding_all rfl) : Ev c outer D h0 L m led A env (.Call (.Name x np) [e] [] pos) (vI (ks.length : Nat)) :=
  e_callB H0 (es_one H1 he) (fun vs ⟨v, q, b, u, q2, hb⟩ => .mk fun S K => by subst q q2; exact k_len hb hz fun u t' => K _ _ _ ⟨u, rfl⟩ S) he
/-- tests -/
theorem b_cmp {op : CmpOp} {B : Bool → Prop} (H1 : Ev c outer D h0 L m led A env e1 P1) (H2 : Ev c outer D h0 L m led A env e2 P2)
    (H : ∀ v1 v2, P1 v1 → P2 v2 → ∀ {Q : Value → Shared → Prop} {E : Value → Shared → Prop} {s : Shared}, (∀ b, B b → Q (.bool b) s) → wpAny (model pw c.w) A (compareOp op v1 v2) Q E s) (hm : behindInMarks op e2 = false := by first | rfl | with_unfolding_all rfl) : Tb c outer D h0 L m led A env (.Compare e1 [op] [e2] pos) B :=
  .mk fun S K => wpAny_isTrue_Compare1 (H1.run S fun v1 h1 t1 p1 S => H2.run S fun v2 h2 t2 p2 S => H v1 v2 p1 p2 fun b hb => wpAny_truthy_bool (K b _ _ hb S)) hm
theorem b_eq (H1 : Ev c outer D h0 L m led A env e1 (vI i)) (H2 : Ev c outer D h0 L m led A env e2 (vI j)) (hm : behindInMarks .Eq e2 = false := by first | rfl | with_unfolding_all rfl) : Tb c outer D h0 L m led A env (.Compare e1 [.Eq] [e2] pos) (· = decide (i = j)) :=
  b_cmp (hm := hm) H1 H2 fun v1 v2 ⟨u, e1⟩ ⟨w, e2⟩ Q E s K => by subst e1 e2; exact PyProof.Rows.eq_int (K _ (by cases q : (i == j) <;> simp_all))
theorem b_lt (H1 : Ev c outer D h0 L m led A env e1 (vI i)) (H2 : Ev c outer D h0 L m led A env e2 (vI j)) (hm : behindInMarks .Lt e2 = false := by first | rfl | with_unfolding_all rfl) : Tb c outer D h0 L m led A env (.Compare e1 [.Lt] [e2] pos) (· = decide (i < j)) :=
  b_cmp (hm := hm) H1 H2 fun v1 v2 ⟨u, e1⟩ ⟨w, e2⟩ Q E s K => by subst e1 e2; exact PyProof.Rows.lt_int (K _ rfl)
theorem b_eqP (H1 : Ev c outer D h0 L m led A env e1 (vP p1)) (H2 : Ev c outer D h0 L m led A env e2 (vP p2)) (hm : behindInMarks .Eq e2 = false := by first | rfl | with_unfolding_all rfl) : Tb c outer D h0 L m led A env (.Compare e1 [.Eq] [e2] pos) (fun _ => True) :=
  b_cmp (hm := hm) H1 H2 fun v1 v2 ⟨a, u, e1, _⟩ ⟨b, w, e2, _⟩ Q E s K => by subst e1 e2; exact PyProof.Rows.eq_int (K _ trivial)
theorem b_eqS {y z : Str} (H1 : Ev c outer D h0 L m led A env e1 (vS y)) (H2 : Ev c outer D h0 L m led A env e2 (vS z)) (hm : behindInMarks .Eq e2 = false := by first | rfl | with_unfolding_all rfl) : Tb c outer D h0 L m led A env (.Compare e1 [.Eq] [e2] pos) (· = (y == z)) :=
  b_cmp (hm := hm) H1 H2 fun v1 v2 ⟨u, e1⟩ ⟨w, e2⟩ Q E s K => by subst e1 e2; exact PyProof.Rows.eq_str (K _ rfl)
theorem b_neS {y z : Str} (H1 : Ev c outer D h0 L m led A env e1 (vS y)) (H2 : Ev c outer D h0 L m led A env e2 (vS z)) (hm : behindInMarks .NotEq e2 = false := by first | rfl | with_unfolding_all rfl) : Tb c outer D h0 L m led A env (.Compare e1 [.NotEq] [e2] pos) (· = (y != z)) :=
  b_cmp (hm := hm) H1 H2 fun v1 v2 ⟨u, e1⟩ ⟨w, e2⟩ Q E s K => by subst e1 e2; exact PyProof.Rows.ne_str (K _ rfl)
/-- statements -/
theorem x_asgE {p : Pos} {rest : List Stmt} {QF : Flow → Shared → Prop} {h : Heap} (H : Ev c outer D h0 L m led A (envY name scope L a cd cY) e P) (S : St c outer D h0 L m led h)
    (K : ∀ v m' h' t', P v → m' x = some v → (∀ y, y ≠ x → m' y = m y) → St c outer D h0 L m' led h' → wpAny (model pw c.w) A (execs rest (envY name scope L a cd cY)) QF E (Mk s h' t'))
    (hs : swapsWith e (some (.Name x p)) pos.line (envY name scope L a cd cY) = pure false := by with_unfolding_all rfl)
    (hk : scope.kind = .function := by with_unfolding_all rfl) (hl : (envY name scope L a cd cY).kindOf x = some .local := by with_unfolding_all rfl) :
    wpAny (model pw c.w) A (execs (.Assign [.Name x p] e pos :: rest) (envY name scope L a cd cY)) QF E (Mk s h t) :=
  x_asg (H.run S fun v h' t' hp S => x_store S (fun h2 t2 S2 => K v _ h2 t2 hp (if_pos rfl) (fun y ne => if_neg ne) S2) hk hl) hs
theorem x_retE {rest : List Stmt} {QF : Flow → Shared → Prop} {h : Heap} (H : Ev c outer D h0 L m led A env e P) (S : St c outer D h0 L m led h) (K : ∀ v h' t', P v → St c outer D h0 L m led h' → QF (.ret v) (Mk s h' t')) :
    wpAny (model pw c.w) A (execs (.Return (some e) pos :: rest) env) QF E (Mk s h t) := x_ret (H.run S K)
theorem x_ifE {body orelse rest : List Stmt} {QF : Flow → Shared → Prop} {h : Heap} {B : Bool → Prop} (H : Tb c outer D h0 L m led A env e B) (S : St c outer D h0 L m led h)
    (K1 : ∀ h' t', B true → St c outer D h0 L m led h' → wpAny (model pw c.w) A (execs body env) (Nx (model pw c.w) A env rest QF E) E (Mk s h' t'))
    (K2 : ∀ h' t', B false → St c outer D h0 L m led h' → wpAny (model pw c.w) A (execs orelse env) (Nx (model pw c.w) A env rest QF E) E (Mk s h' t')) :
    wpAny (model pw c.w) A (execs (.If e body orelse pos :: rest) env) QF E (Mk s h t) :=
  x_if (H.run S fun b h' t' hb S => ⟨fun q => by subst q; exact K1 h' t' hb S, fun q => by subst q; exact K2 h' t' hb S⟩)
/-- entering a def, its ends opaque -/
theorem enterO {f : Addr} {args : List Value} {binds : List (Str × Value)} {pre : Led} {nm qual : Str} {params : Arguments} {body : List Stmt} {dV kV doc pm cdv ct oc : Value} {an od : Option Addr} {osl : Array (Option Value)}
    (C : Cx c (n + 1) A outer h hv) (g : G c h) (P : Pre c (fsOf outer) h pre)
    (ho : (hd.heap_1 c.w.params).lookup f = some ⟨oc, od, .func (fnOf nm qual params body scope dV kV doc pm an cdv ct), osl⟩)
    (hcd : codeIn (hd.heap_1 c.w.params) cdv qual = true)
    (hbind : bindArgs (fnOf nm qual params body scope dV kV doc pm an cdv ct) ⟨args, []⟩ = pure binds)
    (hloc : (binds.all fun x => decide (scope.names.lookup x.1 = some .local)) = true)
    (hcell : ∀ x ∈ scope.names, x.2 ≠ .cell)
    (H : ∀ L h1 t1 m QF EF A', (∀ x, m x = binds.reverse.lookup x) → (∀ v s', Q v s' → QF (.ret v) s') → (∀ s', Q .none s' → QF .next s') → St c outer (pre.map (·.1)) h L m pre h1 → Cx c n A' (envY qual scope L f cdv [] :: outer) h1 hv →
      wpAny (model pw c.w) A' (execs body (envY qual scope L f cdv [])) QF EF (Mk s h1 t1))
    (hco : scope.isCoroutine = false := by with_unfolding_all rfl) (hgen : scope.isGenerator = false := by with_unfolding_all rfl) (hk : scope.kind = .function := by with_unfolding_all rfl) :
    wpAny (model pw c.w) A (call (.ref f) args) Q E (Mk s h t) :=
  enter C g P ho hcd hbind hloc hcell (fun L h1 t1 S C1 => H L h1 t1 _ _ _ _ (fun _ => rfl) (fun _ _ z => z) (fun _ z => z) S C1) hco hgen hk
/-- a loop, its turns' ends opaque -/
theorem x_loopO {target : Expr} {it : Value} {body : List Stmt} {rest : List Stmt} {QF : Flow → Shared → Prop} {h : Heap} (k : Nat) (J : Nat → (Str → Option Value) → Led → Prop)
    (S : St c outer D h0 L m led h) (hJ : J 0 m led)
    (turn : ∀ i m led h t QT EF, i < k → St c outer D h0 L m led h → J i m led → (∀ m led h t, St c outer D h0 L m led h → J (i + 1) m led → QT .next (Mk s h t)) → (∀ v s', QF (.ret v) s' → QT (.ret v) s') →
      wpAny (model p w) A (pyNext it) (fun r s₁ => match r with
      | none => False
      | some v => wpAny (model p w) A (letOwnedTupleGo target it v) (fun _ s₁' => wpAny (model p w) A (assign target env v) (fun _ s₂ => wpAny (model p w) A (execs body env) QT EF s₂) EF s₁') EF s₁) EF (Mk s h t))
    (last : ∀ m led h t EF, St c outer D h0 L m led h → J k m led → wpAny (model p w) A (pyNext it) (fun r s₁ => match r with
      | none => wpAny (model p w) A (execs rest env) QF E s₁
      | some v => False) EF (Mk s h t)) :
    codeAny (model p w) A (.forLoop target it body [] env) (fun r s' => match r with | .ok f => Nx (model p w) A env rest QF E f s' | .error e => cameBackBy (model p w) A env E e s') (Mk s h t) :=
  x_loop k J S hJ (fun i m led h t hi S hJ => turn i m led h t _ _ hi S hJ (fun m led h t S hJ => ⟨m, led, h, t, rfl, S, hJ⟩) fun _ _ z => z) fun m led h t S hJ => last m led h t _ S hJ
end


-- F27
/-! the second logic: loops whose turns raise nothing, expressions, entry -/
theorem p_for {target iter : Expr} {body : List Stmt} {pos : Pos} {rest : List Stmt} {QF : Flow → Shared → Prop}
    (H : wpAny M A (eval iter env) (fun x s₁ => wpAny M A (pyIter x) (fun it s₂ => codeC M A (.forLoop target it body [] env) (fun r s' => match r with | .ok f => NxC M A env rest QF E f s' | .error _ => False) s₂) E s₁) E s)
    (hs : ∀ x, foldedSetIterable iter env x = pure x := by intro _; with_unfolding_all rfl) : wpC M A (execs (.For target iter body [] pos :: rest) env) QF E s := by
  refine p_cons ?_
  rw [exec_For]
  refine wpC_step (wpAny_standAt (wpC_step (wpAny_mono H (fun x s₁ h₁ => wpC_step (wpAny_of_eq (hs x) (wpC_step (wpAny_standAt (wpC_step (wpAny_holding (wpAny_mono h₁ (fun it s₂ h₂ => ?_) fun _ _ h' => h'))))))) fun _ _ h' => h')))
  unfold runOwn
  refine wpC_onRaise (wpC_run (codeC_mono h₂ fun r s' z => ?_) (by intro x; cases x))
  cases r with
  | ok f => exact z
  | error e => exact z.elim
theorem p_loop {target : Expr} {it : Value} {body : List Stmt} {rest : List Stmt} {QF : Flow → Shared → Prop} (k : Nat) (J : Nat → (Str → Option Value) → Led → Prop)
    (S : St c outer D h0 L m led h) (hJ : J 0 m led)
    (turn : ∀ i m led h t EB, i < k → St c outer D h0 L m led h → J i m led → wpAny (model p w) A (pyNext it) (fun r s₁ => match r with
      | none => False
      | some v => wpAny (model p w) A (letOwnedTupleGo target it v) (fun _ s₁' => wpAny (model p w) A (assign target env v) (fun _ s₂ =>
          wpC (model p w) A (execs body env) (fun f s₃ => f = .next ∧ ∃ m led h t, s₃ = Mk s h t ∧ St c outer D h0 L m led h ∧ J (i + 1) m led) (fun _ _ => False) s₂) EB s₁') EB s₁) EB (Mk s h t))
    (last : ∀ m led h t EB, St c outer D h0 L m led h → J k m led → wpAny (model p w) A (pyNext it) (fun r s₁ => match r with
      | none => wpC (model p w) A (execs rest env) QF E s₁
      | some v => False) EB (Mk s h t)) :
    codeC (model p w) A (.forLoop target it body [] env) (fun r s' => match r with | .ok f => NxC (model p w) A env rest QF E f s' | .error _ => False) (Mk s h t) := by
  refine codeC_loop rfl rfl (fun n s' => ∃ i m led h t, n = k - i ∧ i ≤ k ∧ s' = Mk s h t ∧ St c outer D h0 L m led h ∧ J i m led) (fun n s' hI => ?_) (k - 0) ⟨0, m, led, h, t, rfl, Nat.zero_le _, rfl, S, hJ⟩
  obtain ⟨i, m, led, h, t, rfl, hi, rfl, S, hJ⟩ := hI
  show wpC _ A ((forTurn target it body [] env).onRaise (fun x => do noteFrame x env; theTreesLotGoes x)) _ _ _
  refine wpC_onRaise (wpC_mono (E := fun _ _ => False) ?_ (fun _ _ z => z) fun _ _ z => z.elim)
  simp only [forTurn]
  refine wpC_step (wpAny_standAt (wpC_step (wpAny_onRaise ?_)))
  by_cases q : i < k
  · refine wpAny_mono (turn i m led h t (fun _ _ => False) q S hJ) (fun r s₁ z => ?_) fun _ _ z => z.elim
    cases r with
    | none => exact z.elim
    | some v =>
      refine wpC_step (wpAny_mono z (fun _ s₂ z => ?_) fun _ _ z => z)
      refine wpC_step (wpAny_mono z (fun _ s₃ z => wpC_bind (wpC_mono z (fun f s₄ z => ?_) fun _ _ z => z)) fun _ _ z => z)
      obtain ⟨rfl, m, led, h, t, rfl, S, hJ⟩ := z
      exact wpC_pure (.inl ⟨rfl, k - (i + 1), by (first | lia | omega), i + 1, m, led, h, t, rfl, q, rfl, S, hJ⟩)
  · obtain rfl : i = k := Nat.le_antisymm hi (Nat.not_lt.mp q)
    refine wpAny_mono (last m led h t (fun _ _ => False) S hJ) (fun r s₁ z => ?_) fun _ _ z => z.elim
    cases r with
    | none => exact wpC_pure (.inr ⟨rfl, codeC_of (codeAny_block (wpAny_execs_nil z))⟩)
    | some v => exact z.elim

structure EvC (c : Ct) (outer : List Env) (D : List Addr) (h0 : Heap) (L : Addr) (m : Str → Option Value) (led : Led) (A : Around) (env : Env) (e : Expr) (P : Value → Prop) : Prop where
  run : ∀ {Q : Value → Shared → Prop} {E : Value → Shared → Prop} {s : Shared} {h : Heap} {t : Nat}, St c outer D h0 L m led h → (∀ v h' t', P v → St c outer D h0 L m led h' → Q v (Mk s h' t')) → wpC (model pw c.w) A (eval e env) Q E (Mk s h t)
structure ClC (c : Ct) (outer : List Env) (D : List Addr) (h0 : Heap) (L : Addr) (m : Str → Option Value) (led : Led) (A : Around) (f : Value) (vs : List Value) (P : Value → Prop) : Prop where
  run : ∀ {Q : Value → Shared → Prop} {E : Value → Shared → Prop} {s : Shared} {h : Heap} {t : Nat}, St c outer D h0 L m led h → (∀ v h' t', P v → St c outer D h0 L m led h' → Q v (Mk s h' t')) → wpC (model pw c.w) A (call f vs) Q E (Mk s h t)
section
variable {P P1 P2 : Value → Prop} {PL : List Value → Prop} {x : Str} {pos np : Pos} {e e1 e2 : Expr} {es : List Expr} {k : Nat} {v w1 : Value} {fid : String} {f : Addr}
theorem Ev.toC (H : Ev c outer D h0 L m led A env e P) : EvC c outer D h0 L m led A env e P := .mk fun S K => wpC_of (H.run S K)
theorem ec_addB {ks ls : List Int} (H1 : EvC c outer D h0 L m led A env e1 (vB ks)) (H2 : EvC c outer D h0 L m led A env e2 (vB ls)) (hz : ks.length + ls.length ≤ 16777216) : EvC c outer D h0 L m led A env (.BinOp e1 .Add e2 pos) (vB (ks ++ ls)) :=
  .mk fun S K => p_bin (H1.run S fun v1 h1 t1 ⟨b, u, q1, z1⟩ S => H2.run S fun v2 h2 t2 ⟨b', u', q2, z2⟩ S => by subst q1 q2; exact k_add z1 z2 hz fun u t' z => K _ _ _ ⟨_, _, rfl, z⟩ S)
theorem ec_call {fn : Str} (H0 : Ev c outer D h0 L m led A env (.Name fn np) (· = .ref f)) (H1 : Evs c outer D h0 L m led A env (e :: es) PL) (H : ∀ vs, PL vs → ClC c outer D h0 L m led A (.ref f) vs P) (hk : keepIn (hd.heap_1 c.w.params) (.ref f) = true := by rfl)
    (he : starEach (e :: es) env = (false, eval e env) :: starEach es env := by with_unfolding_all rfl) (hplain : (backTo pos (starEach es env)).any (·.1) = false := by with_unfolding_all rfl) :
    EvC c outer D h0 L m led A env (.Call (.Name fn np) (e :: es) [] pos) P :=
  .mk fun S K => p_call (H0.run S fun fv h' t' q S => by subst q; exact p_cw hk (H1.run S fun vs h' t' p S => ⟨S.g.X, (H vs p).run S K⟩) he hplain)
theorem p_asgE {p : Pos} {rest : List Stmt} {QF : Flow → Shared → Prop} {h : Heap} (H : EvC c outer D h0 L m led A (envY name scope L a cd cY) e P) (S : St c outer D h0 L m led h)
    (K : ∀ v m' h' t', P v → m' x = some v → (∀ y, y ≠ x → m' y = m y) → St c outer D h0 L m' led h' → wpC (model pw c.w) A (execs rest (envY name scope L a cd cY)) QF E (Mk s h' t'))
    (hs : swapsWith e (some (.Name x p)) pos.line (envY name scope L a cd cY) = pure false := by with_unfolding_all rfl)
    (hk : scope.kind = .function := by with_unfolding_all rfl) (hl : (envY name scope L a cd cY).kindOf x = some .local := by with_unfolding_all rfl) :
    wpC (model pw c.w) A (execs (.Assign [.Name x p] e pos :: rest) (envY name scope L a cd cY)) QF E (Mk s h t) :=
  p_asg (H.run S fun v h' t' hp S => x_store S (fun h2 t2 S2 => K v _ h2 t2 hp (if_pos rfl) (fun y ne => if_neg ne) S2) hk hl) hs
theorem p_retE {rest : List Stmt} {QF : Flow → Shared → Prop} {h : Heap} (H : EvC c outer D h0 L m led A env e P) (S : St c outer D h0 L m led h) (K : ∀ v h' t', P v → St c outer D h0 L m led h' → QF (.ret v) (Mk s h' t')) :
    wpC (model pw c.w) A (execs (.Return (some e) pos :: rest) env) QF E (Mk s h t) := p_ret (H.run S K)
theorem p_ifE {body orelse rest : List Stmt} {QF : Flow → Shared → Prop} {h : Heap} {B : Bool → Prop} (H : Tb c outer D h0 L m led A env e B) (S : St c outer D h0 L m led h)
    (K1 : ∀ h' t', B true → St c outer D h0 L m led h' → wpC (model pw c.w) A (execs body env) (NxC (model pw c.w) A env rest QF E) E (Mk s h' t'))
    (K2 : ∀ h' t', B false → St c outer D h0 L m led h' → wpC (model pw c.w) A (execs orelse env) (NxC (model pw c.w) A env rest QF E) E (Mk s h' t')) :
    wpC (model pw c.w) A (execs (.If e body orelse pos :: rest) env) QF E (Mk s h t) :=
  p_if (H.run S fun b h' t' hb S => ⟨fun q => by subst q; exact K1 h' t' hb S, fun q => by subst q; exact K2 h' t' hb S⟩)
theorem e_ifx {test : Expr} {B : Bool → Prop} (H : Tb c outer D h0 L m led A env test B) (H1 : B true → Ev c outer D h0 L m led A env e1 P) (H2 : B false → Ev c outer D h0 L m led A env e2 P) : Ev c outer D h0 L m led A env (.IfExp test e1 e2 pos) P :=
  .mk fun S K => IfExp_ (H.run S fun b h' t' hb S => by cases b with | true => exact (H1 hb).run S K | false => exact (H2 hb).run S K)
theorem enterCO {f : Addr} {args : List Value} {binds : List (Str × Value)} {pre : Led} {nm qual : Str} {params : Arguments} {body : List Stmt} {dV kV doc pm cdv ct oc : Value} {an od : Option Addr} {osl : Array (Option Value)}
    (C : Cx c (n + 1) A outer h hv) (g : G c h) (P : Pre c (fsOf outer) h pre)
    (ho : (hd.heap_1 c.w.params).lookup f = some ⟨oc, od, .func (fnOf nm qual params body scope dV kV doc pm an cdv ct), osl⟩)
    (hcd : codeIn (hd.heap_1 c.w.params) cdv qual = true)
    (hbind : bindArgs (fnOf nm qual params body scope dV kV doc pm an cdv ct) ⟨args, []⟩ = pure binds)
    (hloc : (binds.all fun x => decide (scope.names.lookup x.1 = some .local)) = true)
    (hcell : ∀ x ∈ scope.names, x.2 ≠ .cell)
    (H : ∀ L h1 t1 m QF EF A', (∀ x, m x = binds.reverse.lookup x) → (∀ v s', Q v s' → QF (.ret v) s') → (∀ s', Q .none s' → QF .next s') → St c outer (pre.map (·.1)) h L m pre h1 → Cx c n A' (envY qual scope L f cdv [] :: outer) h1 hv →
      wpC (model pw c.w) A' (execs body (envY qual scope L f cdv [])) QF EF (Mk s h1 t1))
    (hco : scope.isCoroutine = false := by with_unfolding_all rfl) (hgen : scope.isGenerator = false := by with_unfolding_all rfl) (hk : scope.kind = .function := by with_unfolding_all rfl) :
    wpC (model pw c.w) A (call (.ref f) args) Q E (Mk s h t) :=
  enterC C g P ho hcd hbind hloc hcell (fun L h1 t1 S C1 => H L h1 t1 _ _ _ _ (fun _ => rfl) (fun _ _ z => z) (fun _ z => z) S C1) hco hgen hk
end


-- F28
theorem St.ret0 (S : St c outer D h0 L m led h) (R : Ret c (L :: fsOf outer) h [] [] h') : St c outer D h0 L m led h' := S.ret (pre := []) R rfl
section
variable {x : Str} {pos : Pos} {u : Tok} {k : Int} {y : Str} {ks : List Int} {b : Array UInt8}
theorem e_locI (hv : m x = some (.int k u)) (hk : scope.kind = .function := by with_unfolding_all rfl) (hl : (envY name scope L a cd cY).kindOf x = some .local := by with_unfolding_all rfl) (hd : (x == ("__debug__" : Str)) = false := by decide) :
    Ev c outer D h0 L m led A (envY name scope L a cd cY) (.Name x pos) (vI k) := Ev.mono (e_loc hv hk hl hd) fun v e => ⟨u, e⟩
theorem e_locS (hv : m x = some (.str y u)) (hk : scope.kind = .function := by with_unfolding_all rfl) (hl : (envY name scope L a cd cY).kindOf x = some .local := by with_unfolding_all rfl) (hd : (x == ("__debug__" : Str)) = false := by decide) :
    Ev c outer D h0 L m led A (envY name scope L a cd cY) (.Name x pos) (vS y) := Ev.mono (e_loc hv hk hl hd) fun v e => ⟨u, e⟩
theorem e_locB {v : Value} (hv : m x = some v) (hb : vB ks v) (hk : scope.kind = .function := by with_unfolding_all rfl) (hl : (envY name scope L a cd cY).kindOf x = some .local := by with_unfolding_all rfl) (hd : (x == ("__debug__" : Str)) = false := by decide) :
    Ev c outer D h0 L m led A (envY name scope L a cd cY) (.Name x pos) (vB ks) := Ev.mono (e_loc hv hk hl hd) fun v e => e ▸ hb
theorem cl_put_varint {h1 : Heap} (k0 : 0 ≤ k) (k1 : k < 2 ^ 62) (C : Cx c (n + 2) A (envY name scope L a cd cY :: outer) h1 none) (hk : scope.kind = .function := by with_unfolding_all rfl) : ClC c outer D h0 L m led A (.ref 90) [.int k u, .none] (vB (vint k)) :=
  .mk fun S K => spec_put_varint k0 k1 (S.cx C rfl hk) S.g fun b u h t hb R => K _ _ _ ⟨b, u, rfl, hb⟩ (S.ret0 R)
/-- put_varint(e, None) -/
theorem ec_varint {h1 : Heap} {e : Expr} {kk : Nat} {np pos pos2 : Pos} (H : Ev c outer D h0 L m led A (envY name scope L a cd cY) e (vI k)) (k0 : 0 ≤ k) (k1 : k < 2 ^ 62) (C : Cx c (n + 2) A (envY name scope L a cd cY :: outer) h1 none)
    (hk : scope.kind = .function := by with_unfolding_all rfl) (hl : (envY name scope L a cd cY).kindOf (Str.ofString "put_varint") = some .globalImplicit := by with_unfolding_all rfl)
    (he : starEach [e, .Constant .none kk pos2] (envY name scope L a cd cY) = (false, eval e (envY name scope L a cd cY)) :: starEach [.Constant .none kk pos2] (envY name scope L a cd cY) := by with_unfolding_all rfl) :
    EvC c outer D h0 L m led A (envY name scope L a cd cY) (.Call (.Name (Str.ofString "put_varint") np) [e, .Constant .none kk pos2] [] pos) (vB (vint k)) :=
  ec_call (e_glob (fun h g => g_put_varint g) hk hl) (es_two H e_none he) (fun vs ⟨v, v1, q, ⟨u, q1⟩, q2⟩ => by subst q q1 q2; exact cl_put_varint k0 k1 C hk) (he := he)
end
/-- what a value is written as -/
noncomputable def encV : Val → List Int
  | .num k => vint k
  | .flag _ => []
  | .oct l => l
  | .addr x => putAddr x
/-- a value is of its kind -/
noncomputable def Fit (kd : Str) : Val → Prop
  | .num k => (kd == Str.ofString "number") = true ∧ 0 ≤ k ∧ k < 2 ^ 62
  | .flag b => (kd == Str.ofString "number") = false ∧ (kd == Str.ofString "flag") = true ∧ b = true
  | .oct l => (kd == Str.ofString "number") = false ∧ (kd == Str.ofString "flag") = false ∧ (kd == Str.ofString "address") = false ∧ l.length ≤ 100
  | .addr (l1, i1, l2, i2, l3, l4) => (kd == Str.ofString "number") = false ∧ (kd == Str.ofString "flag") = false ∧ (kd == Str.ofString "address") = true ∧ l1.length ≤ 100 ∧ l2.length ≤ 100 ∧ l3.length ≤ 100 ∧ l4.length ≤ 100 ∧ (0 ≤ i1 ∧ i1 < 65536) ∧ (0 ≤ i2 ∧ i2 < 65536)
theorem vint_len (k : Int) : (vint k).length ≤ 8 := by unfold vint; rw [octs_length]; rcases vsz_is k with q | q | q | q <;> rw [q] <;> decide
theorem encV_len {kd : Str} : ∀ {x : Val}, Fit kd x → (encV x).length ≤ 500
  | .num k, _ => Nat.le_trans (vint_len k) (by decide)
  | .flag _, _ => by simp [encV]
  | .oct l, h => Nat.le_trans h.2.2.2 (by decide)
  | .addr (l1, i1, l2, i2, l3, l4), ⟨_, _, _, z1, z2, z3, z4, _⟩ => by simp [encV, putAddr, b16]; (first | lia | omega)
set_option maxHeartbeats 4000000 in
theorem spec_put_value {hB : Heap} {kd : Str} {u1 : Tok} {x : Val} {v : Value} {l : Led} (hv : VL x v l) (hl : ∀ p ∈ l, At hB p.1 p.2 ∧ p.1 ∉ fsOf outer) (fit : Fit kd x) (C : Cx c (n + 3) A outer hB none) (g : G c hB)
    (K : ∀ v h' t', vB (encV x) v → Ret c (fsOf outer) hB [] [] h' → Q v (Mk s h' t')) :
    wpC (model pw c.w) A (call (.ref 217) [.str kd u1, v]) Q E (Mk s hB t) := by
  refine enterCO (binds := [(Str.ofString "kind", .str kd u1), (Str.ofString "told", v)]) C g pre_nil (by rfl) (by rfl) rfl (by rfl) (by decide) (fun L h t m QF EF A' hm hQ hN S C2 => ?_)
  have f1 := (hm (Str.ofString "kind")).trans (b := some (Value.str kd u1)) (by rfl)
  have f2 := (hm (Str.ofString "told")).trans (b := some v) (by rfl)
  refine p_ifE (b_eqS (e_locS f1) e_str) S (fun h t q S => ?_) (fun h t q1 S => p_nilN ?_)
  · cases hv with
    | num u => exact p_retE (ec_varint (e_locI f2) fit.2.1 fit.2.2 C2) S fun v h t p S => hQ _ _ (K v h t p (S.bare.done rfl))
    | flag => exact absurd (q.trans fit.1) (by decide)
    | oct u hb => exact absurd (q.trans fit.1) (by decide)
    | addr => exact absurd (q.trans fit.1) (by decide)
  refine p_ifE (b_eqS (e_locS f1) e_str) S (fun h t q S => ?_) (fun h t q2 S => p_nilN ?_)
  · cases hv with
    | num u => exact absurd (q1.trans fit.1) (by decide)
    | flag => exact p_retE (Ev.toC (e_byt (ks := []))) S fun v h t p S => hQ _ _ (K v h t p (S.bare.done rfl))
    | oct u hb => exact absurd (q.trans fit.2.1) (by decide)
    | addr => exact absurd (q.trans fit.2.1) (by decide)
  refine p_retE (P := vB (encV x)) (Ev.toC (e_ifx (b_eqS (e_locS f1) e_str) (fun q => ?_) (fun q3 => ?_))) S fun v h t p S => hQ _ _ (K v h t p (S.bare.done rfl))
  · cases hv with
    | num u => exact absurd (q1.trans fit.1) (by decide)
    | flag => exact absurd (q2.trans fit.2.1) (by decide)
    | oct u hb => exact absurd (q.trans fit.2.2.1) (by decide)
    | addr h1 h2 h3 h4 =>
      obtain ⟨_, _, _, z1, z2, z3, z4, z5, z6⟩ := fit
      refine e_call (e_glob (fun h g => g_put_address g)) (es_one (e_loc f2)) (fun vs ⟨v, e, q⟩ => .mk fun S K => ?_)
      subst e q
      obtain ⟨hT, nT⟩ := hl _ (List.mem_singleton.mpr rfl)
      exact spec_put_address (n := n) (S.base hT nT) (nin_env S rfl hT nT) h1 h2 h3 h4 z1 z2 z3 z4 z5 z6 (Cx.le (S.cx C2) (by exact Nat.le_add_right _ 1)) S.g fun b u h t hb R => K _ _ _ ⟨b, u, rfl, hb⟩ (S.ret0 R)
  · cases hv with
    | num u => exact absurd (q1.trans fit.1) (by decide)
    | flag => exact absurd (q2.trans fit.2.1) (by decide)
    | oct u hb => exact e_locB f2 ⟨_, u, rfl, hb⟩
    | addr => exact absurd (q3.trans fit.2.2.1) (by decide)


-- F29
section
variable {P P1 P2 : Value → Prop} {x : Str} {pos np : Pos} {e e1 e2 : Expr} {B B1 B2 : Bool → Prop} {kvs : List (Str × Value)} {y : Str} {v : Value} {d : Addr}
theorem b_cmpS {op : CmpOp} (H1 : Ev c outer D h0 L m led A env e1 P1) (H2 : Ev c outer D h0 L m led A env e2 P2)
    (H : ∀ v1 v2, P1 v1 → P2 v2 → ∀ {Q : Value → Shared → Prop} {E : Value → Shared → Prop} {s : Shared} {h : Heap} {t : Nat}, St c outer D h0 L m led h → (∀ b h' t', B b → St c outer D h0 L m led h' → Q (.bool b) (Mk s h' t')) → wpAny (model pw c.w) A (compareOp op v1 v2) Q E (Mk s h t))
    (hm : behindInMarks op e2 = false := by first | rfl | with_unfolding_all rfl) : Tb c outer D h0 L m led A env (.Compare e1 [op] [e2] pos) B :=
  .mk fun S K => wpAny_isTrue_Compare1 (H1.run S fun v1 h1 t1 p1 S => H2.run S fun v2 h2 t2 p2 S => H v1 v2 p1 p2 S fun b h' t' hb S => wpAny_truthy_bool (K b _ _ hb S)) hm
theorem b_and (H1 : Tb c outer D h0 L m led A env e1 B1) (H2 : B1 true → Tb c outer D h0 L m led A env e2 B) (h : B1 false → B false) : Tb c outer D h0 L m led A env (.BoolOp .And [e1, e2] pos) B :=
  .mk fun S K => isTrue_and (H1.run S fun b h1 t1 hb S => by
    cases b with
    | false => exact K _ _ _ (h hb) S
    | true => exact isTrue_and ((H2 hb).run S fun b h2 t2 hb S => by
        cases b with
        | false => exact K _ _ _ hb S
        | true => exact isTrue_and_nil (K _ _ _ hb S)))
theorem b_or (H1 : Tb c outer D h0 L m led A env e1 B1) (H2 : B1 false → Tb c outer D h0 L m led A env e2 B) (h : B1 true → B true) : Tb c outer D h0 L m led A env (.BoolOp .Or [e1, e2] pos) B :=
  .mk fun S K => isTrue_or (H1.run S fun b h1 t1 hb S => by
    cases b with
    | true => exact K _ _ _ (h hb) S
    | false => exact isTrue_or ((H2 hb).run S fun b h2 t2 hb S => by
        cases b with
        | true => exact K _ _ _ hb S
        | false => exact isTrue_or_nil (K _ _ _ hb S)))
theorem e_item (H1 : Ev c outer D h0 L m led A env e1 (· = .ref d)) (H2 : Ev c outer D h0 L m led A env e2 (vS y)) (ha : ∀ h, St c outer D h0 L m led h → At h d (Dct c kvs)) (hv : valueAt kvs y = some v)
    (hs : ∀ u, subscripted e2 false (.ref d) (.str y u) = operate [.ref d, .str y u] (getItem (.ref d) (.str y u)) := by intro _; with_unfolding_all rfl) (hg : ∀ r, letTemporaryGo e1 (.ref d) r = pure () := by intro _; with_unfolding_all rfl) :
    Ev c outer D h0 L m led A env (.Subscript e1 e2 pos) (· = v) :=
  .mk fun S K => Subscript_ (H1.run S fun v1 h1 t1 q1 S => H2.run S fun v2 h2 t2 ⟨u, q2⟩ S => by subst q1 q2; exact d_item (ha _ S) hv (fun t' => K _ _ _ rfl S) (hs u) hg)
theorem b_inD (H1 : Ev c outer D h0 L m led A env e1 (vS y)) (H2 : Ev c outer D h0 L m led A env e2 (· = .ref d)) (ha : ∀ h, St c outer D h0 L m led h → At h d (Dct c kvs)) (ns : (d == sysModules) = false)
    (hm : behindInMarks .In e2 = false := by first | rfl | with_unfolding_all rfl) : Tb c outer D h0 L m led A env (.Compare e1 [.In] [e2] pos) (· = (valueAt kvs y).isSome) :=
  b_cmpS (hm := hm) H1 H2 fun v1 v2 ⟨u, q1⟩ q2 Q E s h t S K => by subst q1 q2; exact d_inS (ha _ S) ns fun t' => K _ _ _ rfl S
theorem b_val {b : Bool} (H : Ev c outer D h0 L m led A env e (· = .bool b)) (he : isTrue e env (eval e env) = (do let v ← eval e env; standAt e.pos; holding [v] (truthy v)) := by rfl) : Tb c outer D h0 L m led A env e (· = b) :=
  .mk fun S K => isTrue_plain (H.run S fun v h t q S => by subst q; exact wpAny_truthy_bool (K _ _ _ rfl S)) he
end
noncomputable def fval {α : Type} (f : List (Str × α)) (k : Str) : Option α := (f.find? fun q => q.1 = k).map (·.2)
theorem DL.look {f : List (Str × Val)} {kvs : List (Str × Value)} {led : Led} (y : DL f kvs led) (k : Str) : (fval f k = none ∧ valueAt kvs k = none) ∨ ∃ x v l, fval f k = some x ∧ valueAt kvs k = some v ∧ VL x v l ∧ ∀ p ∈ l, p ∈ led := by
  induction y with
  | nil => exact .inl ⟨rfl, rfl⟩
  | @cons k' x' v' l' led f kvs h1 h2 _ ih =>
    unfold fval valueAt at ih ⊢
    rw [List.find?_cons, List.find?_cons]
    by_cases q : k' = k
    · simp only [q, decide_true]; exact .inr ⟨x', v', l', rfl, rfl, h1, h2⟩
    · simp only [q, decide_false]; exact ih
noncomputable def rowB (k : Int) (l : List Int) : List Int := vint k ++ vint l.length ++ l
noncomputable def encRow (f : List (Str × Val)) (i : Nat) : List Int := match fval f (pname i) with
  | some x => rowB i (encV x)
  | none => []
noncomputable def encTo (f : List (Str × Val)) (i : Nat) : List Int := (List.range i).flatMap (encRow f)
noncomputable def encUn (un : List (Int × List Int)) : List Int := un.flatMap fun q => rowB q.1 q.2
noncomputable def encAll (f : List (Str × Val)) (un : List (Int × List Int)) : List Int := encTo f 17 ++ encUn un
theorem rowB_len (k : Int) (l : List Int) : (rowB k l).length ≤ 16 + l.length := by
  have h1 := vint_len k; have h2 := vint_len l.length; simp [rowB]; (first | lia | omega)
theorem valueAt_app {kvs : List (Str × Value)} {k k' : Str} {v : Value} (h : k' ≠ k) : valueAt (kvs ++ [(k', v)]) k = valueAt kvs k := by
  unfold valueAt
  rw [List.find?_append]
  cases q : kvs.find? (fun q => q.1 = k) with
  | some x => rfl
  | none => simp [h]
theorem valueAt_last {kvs : List (Str × Value)} {k : Str} {v : Value} (h : valueAt kvs k = none) : valueAt (kvs ++ [(k, v)]) k = some v := by
  unfold valueAt at h ⊢
  rw [List.find?_append]
  cases q : kvs.find? (fun q => q.1 = k) with
  | some x => rw [q] at h; cases h
  | none => simp


-- F30
theorem encTo_succ (f : List (Str × Val)) (i : Nat) : encTo f (i + 1) = encTo f i ++ encRow f i := by
  unfold encTo; rw [List.range_succ, List.flatMap_append]; simp
theorem encRow_len {f : List (Str × Val)} {i : Nat} {kd : Str} (h : ∀ x, fval f (pname i) = some x → Fit kd x) : (encRow f i).length ≤ 600 := by
  unfold encRow
  split
  · rename_i x e
    have h1 := encV_len (h x e)
    have h2 := rowB_len i (encV x)
    (first | lia | omega)
  · simp
theorem encTo_len {f : List (Str × Val)} : ∀ {i : Nat}, (∀ j, j < i → ∀ x, fval f (pname j) = some x → Fit (pkind j) x) → (encTo f i).length ≤ 600 * i
  | 0, _ => by simp [encTo]
  | i + 1, h => by
    rw [encTo_succ, List.length_append]
    have h1 := encTo_len (i := i) fun j hj => h j (by (first | lia | omega))
    have h2 := encRow_len (h i (by (first | lia | omega)))
    (first | lia | omega)
theorem UNK_ne {i : Nat} (hi : i < 17) : UNK ≠ pname i := (pnames_ok _ (pname_mem hi)).2
theorem encUn_len : ∀ {un : List (Int × List Int)}, (∀ q ∈ un, q.2.length ≤ 100) → (encUn un).length ≤ 200 * un.length
  | [], _ => by simp [encUn]
  | q :: un, h => by
    have h1 := encUn_len (un := un) fun q hq => h q (List.mem_cons_of_mem _ hq)
    have h2 := rowB_len q.1 q.2
    have h3 := h q (List.mem_cons_self ..)
    unfold encUn at h1 ⊢
    rw [List.flatMap_cons, List.length_append, List.length_cons]
    (first | lia | omega)
theorem encUn_take {un : List (Int × List Int)} {i : Nat} {q : Int × List Int} (h : un[i]? = some q) : encUn (un.take (i + 1)) = encUn (un.take i) ++ rowB q.1 q.2 := by
  unfold encUn
  rw [List.take_add_one, h, List.flatMap_append]
  simp
set_option maxHeartbeats 8000000 in
theorem spec_put_params {hB : Heap} {d U : Addr} {f : List (Str × Val)} {un : List (Int × List Int)} {kvs : List (Str × Value)} {Us : List Addr} {vl : Led}
    (hd1 : At hB d (Dct c (kvs ++ [(UNK, .ref U)]))) (nd : d ∉ fsOf outer) (ns : (d == sysModules) = false) (dl : DL f kvs vl) (hvl : ∀ p ∈ vl, At hB p.1 p.2 ∧ p.1 ∉ fsOf outer) (hku : valueAt kvs UNK = none)
    (hU : At hB U (LN (Us.map .ref))) (nU : U ∉ fsOf outer) (hUs : ∀ p ∈ PLd Us un, At hB p.1 p.2 ∧ p.1 ∉ fsOf outer) (eU : Us.length = un.length)
    (fit : ∀ j, j < 17 → ∀ x, fval f (pname j) = some x → Fit (pkind j) x) (hun : ∀ q ∈ un, (0 ≤ q.1 ∧ q.1 < 2 ^ 62) ∧ q.2.length ≤ 100) (hl : un.length ≤ 100) (C : Cx c (n + 4) A outer hB none) (g : G c hB)
    (K : ∀ v h' t', vB (encAll f un) v → Ret c (fsOf outer) hB [] [] h' → Q v (Mk s h' t')) :
    wpC (model pw c.w) A (call (.ref 224) [.ref d]) Q E (Mk s hB t) := by
  refine enterCO (binds := [(Str.ofString "told", .ref d)]) C g pre_nil (by rfl) (by rfl) rfl (by rfl) (by decide) (fun L h t m QF EF A' hm hQ hN S C2 => ?_)
  have f1 := (hm (Str.ofString "told")).trans (b := some (Value.ref d)) (by rfl)
  refine p_asgE (Ev.toC (e_byt (ks := []))) S (fun v m1 h t p1 e1 hm1 S => ?_)
  have f1 := (hm1 (Str.ofString "told") (by decide)).trans f1
  refine p_for ?_
  refine x_glob S (g_PARAM_ROWS S.g) ?_
  refine iter_tup S (PR_at S.g) (fun I h I0 S _ => ?_)
  refine p_loop 17 (fun i m led => led = [(I, ItT 171 i)] ∧ m (Str.ofString "told") = some (.ref d) ∧ ∃ v, m (Str.ofString "found") = some v ∧ vB (encTo f i) v) S ⟨rfl, f1, v, e1, p1⟩ (fun i m led h t EB hi S hJ => ?_) (fun m led h t EB S hJ => ?_)
  · obtain ⟨rfl, f1, v, f2, b2⟩ := hJ
    refine next_tup S (PR_at S.g) (prefs_get hi) (fun h S _ => ?_)
    obtain ⟨t1, t2, t3, hr⟩ := PR_row S.g hi
    refine own_go S.head ?_
    refine x_unp S hr C2.hd (fun h S _ => ?_)
    refine a_name S (fun h t S => ?_)
    refine a_name S (fun h t S => ?_)
    refine a_name S (fun h t S => ?_)
    refine a_nil ?_
    obtain ⟨m2, em, S⟩ := S.op
    have f1 : m2 (Str.ofString "told") = some (.ref d) := by rw [em]; ((repeat refine it_ne ?_ (by decide)); first | assumption | exact it_eq | with_unfolding_all rfl)
    have f2 : m2 (Str.ofString "found") = some v := by rw [em]; ((repeat refine it_ne ?_ (by decide)); first | assumption | exact it_eq | with_unfolding_all rfl)
    have f3 : m2 (Str.ofString "number") = some (.int i t1) := by rw [em]; ((repeat refine it_ne ?_ (by decide)); first | assumption | exact it_eq | with_unfolding_all rfl)
    have f4 : m2 (Str.ofString "name") = some (.str (pname i) t2) := by rw [em]; ((repeat refine it_ne ?_ (by decide)); first | assumption | exact it_eq | with_unfolding_all rfl)
    have f5 : m2 (Str.ofString "kind") = some (.str (pkind i) t3) := by rw [em]; ((repeat refine it_ne ?_ (by decide)); first | assumption | exact it_eq | with_unfolding_all rfl)
    clear em
    have lk := dl.look (pname i)
    rw [← valueAt_app (kvs := kvs) (v := .ref U) (UNK_ne hi)] at lk
    have fi := fit i hi
    have z := encTo_len (f := f) (i := i) fun j hj => fit j (by (first | lia | omega))
    rcases lk with ⟨lf, lv⟩ | ⟨x, v', l, lf, lv, vx, hl'⟩
    · refine p_ifE (B := (· = false)) (b_and (b_inD (e_locS f4) (e_loc f1) (fun h S => S.base hd1 nd) ns) (fun q => ?_) fun _ => rfl) S (fun h t q S => nomatch q) (fun h t q S => p_nilN (p_nil ?_))
      · rw [lv] at q; cases q
      · exact ⟨rfl, _, _, _, _, rfl, S, rfl, f1, v, f2, by rw [encTo_succ]; unfold encRow; rw [lf, List.append_nil]; exact b2⟩
    · have fx := fi x lf
      refine p_ifE (B := (· = true)) (b_and (b_inD (e_locS f4) (e_loc f1) (fun h S => S.base hd1 nd) ns) (fun q => b_or (b_neS (e_locS f5) e_str) (fun q => ?_) fun _ => rfl) fun q => ?_) S (fun h t q S => ?_) (fun h t q S => nomatch q)
      · have q' : (pkind i == Str.ofString "flag") = true := by simpa using q
        refine b_val (e_item (e_loc f1) (e_locS f4) (fun h S => S.base hd1 nd) ?_)
        rw [lv]
        cases vx with
        | num u => exact absurd ((beq_iff_eq.mp q' ▸ fx.1 : (Str.ofString "flag" == Str.ofString "number") = true)) (by decide)
        | flag => rw [fx.2.2]
        | oct u hb => exact absurd (q'.symm.trans fx.2.1) (by decide)
        | addr => exact absurd (q'.symm.trans fx.2.1) (by decide)
      · rw [lv] at q; cases q
      refine p_asgE (P := vB (encV x)) (ec_call (e_glob (fun h g => g_put_value g)) (es_two (e_locS f5) (e_item (e_loc f1) (e_locS f4) (fun h S => S.base hd1 nd) lv)) (fun vs ⟨v1, v2, q1, ⟨u, q2⟩, q3⟩ => ?_)) S (fun w m3 h t pw e3 hm3 S => ?_)
      · subst q1 q2 q3
        refine .mk fun S K => ?_
        exact spec_put_value (n := n) vx (fun p hp => ⟨S.base (hvl p (hl' p hp)).1 (hvl p (hl' p hp)).2, nin_env S rfl (hvl p (hl' p hp)).1 (hvl p (hl' p hp)).2⟩) fx (S.cx C2) S.g fun v h t hb R => K _ _ _ hb (S.ret0 R)
      have ez := encV_len fx
      have l1 := vint_len i
      have l2 := vint_len (encV x).length
      refine p_asgE (ec_addB (ec_addB (ec_addB (Ev.toC (e_locB ((hm3 _ (by decide)).trans f2) b2)) (ec_varint (e_locI ((hm3 _ (by decide)).trans f3)) (by (first | lia | omega)) (by (first | lia | omega)) (Cx.le (n := n + 3) (k := n + 2) C2 (by exact Nat.le_add_right _ 1))) ?_) (ec_varint (e_len (e_blt fun h g => b_len g) (e_locB e3 pw) ?_) (by (first | lia | omega)) (by (first | lia | omega)) (Cx.le (n := n + 3) (k := n + 2) C2 (by exact Nat.le_add_right _ 1))) ?_) (Ev.toC (e_locB e3 pw)) ?_) S (fun w m4 h t pw4 e4 hm4 S => p_nilN (p_nil ?_))
      rotate_right
      · refine ⟨rfl, _, _, _, _, rfl, S, rfl, (hm4 _ (by decide)).trans ((hm3 _ (by decide)).trans f1), w, e4, ?_⟩
        rw [encTo_succ]; unfold encRow; rw [lf]
        simpa [rowB] using pw4
      all_goals ((try simp only [List.length_append]); (first | lia | omega))
  · obtain ⟨rfl, f1, v, f2, b2⟩ := hJ
    refine end_tup S I0 (PR_at S.g) (by rfl) C2.hd (fun h S => ?_)
    have z := encTo_len (f := f) (i := 17) fit
    refine p_for ?_
    refine x_callA ?_
    refine x_loc S f1 ?_
    refine m_dict (S.base hd1 nd) PySem.F.slot_dict_get PySem.F.type_dict_get ?_
    with_reducible refine x_cwB1 ?_
    with_reducible refine x_arg (i_str (fun _ _ => x_arg (x_lstQ (x_argN ?_))))
    refine mk_listQ S (Nat.le_of_ble_eq_true rfl) (fun B h B0 S _ => ?_)
    with_reducible refine x_argN ?_
    refine d_get2 (S.base hd1 nd) ns (fun t => ?_)
    rw [show valueAt (kvs ++ [(UNK, Value.ref U)]) (Str.ofString "unknown") = some (Value.ref U) from valueAt_last hku]
    have S := S.bare
    refine iter_list S (S.base hU nU).ln (fun J h J0 S _ => ?_)
    refine p_loop un.length (fun i m led => led = [(J, ItL U i)] ∧ ∃ v, m (Str.ofString "found") = some v ∧ vB (encTo f 17 ++ encUn (un.take i)) v) S ⟨rfl, v, f2, by simpa [encUn] using b2⟩ (fun i m led h t EB hi S hJ => ?_) (fun m led h t EB S hJ => ?_)
    · obtain ⟨rfl, v, f2, b2⟩ := hJ
      obtain ⟨T, eT⟩ : ∃ T, Us[i]? = some T := ⟨_, List.getElem?_eq_getElem (by (first | lia | omega))⟩
      obtain ⟨⟨k, l⟩, eq⟩ : ∃ q, un[i]? = some q := ⟨_, List.getElem?_eq_getElem hi⟩
      obtain ⟨aT, nT⟩ := hUs _ (PLd_mem eT eq)
      obtain ⟨⟨k0, k1⟩, lz⟩ := hun _ (List.mem_of_getElem? eq)
      dsimp only at k0 k1 lz aT
      refine next_list S (S.base hU nU).ln (by rw [List.getElem?_map, eT]; rfl) (fun h S _ => ?_)
      refine own_goL S.head ?_
      obtain ⟨oT, eo, ut, bt, wt, tup, hbt⟩ := S.base aT nT
      refine x_unp S ⟨oT, eo, tup⟩ C2.hd (fun h S _ => ?_)
      refine a_name S (fun h t S => ?_)
      refine a_name S (fun h t S => ?_)
      refine a_nil ?_
      obtain ⟨m2, em, S⟩ := S.op
      have f2 : m2 (Str.ofString "found") = some v := by rw [em]; ((repeat refine it_ne ?_ (by decide)); first | assumption | exact it_eq | with_unfolding_all rfl)
      have f3 : m2 (Str.ofString "number") = some (.int k ut) := by rw [em]; ((repeat refine it_ne ?_ (by decide)); first | assumption | exact it_eq | with_unfolding_all rfl)
      have f4 : m2 (Str.ofString "value") = some (.bytes bt wt) := by rw [em]; ((repeat refine it_ne ?_ (by decide)); first | assumption | exact it_eq | with_unfolding_all rfl)
      clear em
      have z2 := encUn_len (un := un.take i) fun q hq => (hun q (List.mem_of_mem_take hq)).2
      rw [List.length_take] at z2
      have l1 := vint_len k
      have l2 := vint_len l.length
      have bv : vB l (.bytes bt wt) := ⟨bt, wt, rfl, hbt⟩
      refine p_asgE (ec_addB (ec_addB (ec_addB (Ev.toC (e_locB f2 b2)) (ec_varint (e_locI f3) k0 k1 (Cx.le (n := n + 3) (k := n + 2) C2 (by exact Nat.le_add_right _ 1))) ?_) (ec_varint (e_len (e_blt fun h g => b_len g) (e_locB f4 bv) ?_) (by (first | lia | omega)) (by (first | lia | omega)) (Cx.le (n := n + 3) (k := n + 2) C2 (by exact Nat.le_add_right _ 1))) ?_) (Ev.toC (e_locB f4 bv)) ?_) S (fun w m4 h t pw4 e4 hm4 S => p_nil ⟨rfl, _, _, _, _, rfl, S, rfl, w, e4, ?_⟩)
      rotate_right
      · rw [encUn_take eq]; simpa [rowB] using pw4
      all_goals ((try simp only [List.length_append]); (first | lia | omega))
    · obtain ⟨rfl, v, f2, b2⟩ := hJ
      refine end_list S J0 (S.base hU nU).ln (by rw [List.getElem?_map, List.getElem?_eq_none (by (first | lia | omega))]; rfl) C2.hd (fun h S => ?_)
      rw [List.take_length] at b2
      exact p_retE (Ev.toC (e_locB f2 b2)) S fun v h t p S => hQ _ _ (K v h t p (S.bare.done rfl))


-- F61
section
variable {np pos p2 : Pos} {e1 : Expr} {txt : Str} {rest : List Stmt} {h1 : Heap} {QT : Flow → Shared → Prop} {ET EF : Value → Shared → Prop}
theorem x_refuseL (H1 : Ev c outer D h0 L m led A (envY name scope L a cd cY) e1 (vS txt)) (S : St c outer D h0 L m led h) (ht : txt.length ≤ 1000) (C : Cx c (n + 3) A (envY name scope L a cd cY :: outer) h1 none) (dD : ∀ b ∈ D, b ∉ fsOf outer)
    (hET : ∀ e s', EL (model pw c.w) A (envY name scope L a cd cY) EF e s' → ET e s') (hE : ∀ e s', wpAny (model pw c.w) A (leaving (envY name scope L a cd cY) e) (fun _ s'' => E e s'') (fun e' s'' => E e' s'') s' → EF e s')
    (K : ∀ e h' t', Fly h0 38 (some 8) e .none h' → Ext c D (fsOf outer) h0 h' → E (.ref e) (Mk s h' t'))
    (hk : scope.kind = .function := by with_unfolding_all rfl) (hl : (envY name scope L a cd cY).kindOf (Str.ofString "refuse_params") = some .globalImplicit := by with_unfolding_all rfl)
    (he : starEach [e1] (envY name scope L a cd cY) = (false, eval e1 (envY name scope L a cd cY)) :: starEach [] (envY name scope L a cd cY) := by with_unfolding_all rfl) (hi : interactive (envY name scope L a cd cY) = false := by with_unfolding_all rfl) :
    wpAny (model pw c.w) A (execs (.Expr (.Call (.Name (Str.ofString "refuse_params") np) [e1] [] pos) p2 :: rest) (envY name scope L a cd cY)) QT ET (Mk s h t) := by
  refine x_expr (x_call (x_glob S (g_refuse_params S.g) (x_cw (K := hd.heap_1 c.w.params) (by rfl) (x_arg (H1.run S fun v h t ⟨u, q⟩ S => x_argN ⟨S.g.X, ?_⟩) he) he) hk hl)) hi
  subst q
  exact spec_refuse (n := n) ht (S.cx C rfl hk) S.g (.inl rfl) (fun e h t X x => hET _ _ (x_againL S rfl hk C X (fly_h rfl x) (fun h5 X5 k5 => hE _ _ (x_out S rfl hk C.fr X5 k5 dD (fun h4 X4 x4 => K e h4 _ X4 x4)))))
end
section
variable {np pos p1 : Pos} {k0 : Nat} {x : Str} {i : Nat} {e1 e2 : Expr} {y z : Str}
theorem e_row1 (hx : m x = some (.ref (154 + i))) (hi : i < 17) (hk : scope.kind = .function := by with_unfolding_all rfl) (hl : (envY name scope L a cd cY).kindOf x = some .local := by with_unfolding_all rfl) (hd : (x == ("__debug__" : Str)) = false := by decide) :
    Ev c outer D h0 L m led A (envY name scope L a cd cY) (.Subscript (.Name x np) (.Constant (.int 1) k0 p1) pos) (vS (pname i)) :=
  .mk fun S K => Subscript_ (x_loc S hx (i_int fun _ _ => by
    obtain ⟨t1, t2, t3, hr⟩ := PR_row S.g hi
    exact i_tup hr (by decide) (by decide) (j := 1) (by rfl) rfl (K _ _ _ ⟨_, rfl⟩ S)) hk hl hd)
theorem e_row2 (hx : m x = some (.ref (154 + i))) (hi : i < 17) (hk : scope.kind = .function := by with_unfolding_all rfl) (hl : (envY name scope L a cd cY).kindOf x = some .local := by with_unfolding_all rfl) (hd : (x == ("__debug__" : Str)) = false := by decide) :
    Ev c outer D h0 L m led A (envY name scope L a cd cY) (.Subscript (.Name x np) (.Constant (.int 2) k0 p1) pos) (vS (pkind i)) :=
  .mk fun S K => Subscript_ (x_loc S hx (i_int fun _ _ => by
    obtain ⟨t1, t2, t3, hr⟩ := PR_row S.g hi
    exact i_tup hr (by decide) (by decide) (j := 2) (by rfl) rfl (K _ _ _ ⟨_, rfl⟩ S)) hk hl hd)
theorem e_catS (H1 : Ev c outer D h0 L m led A env e1 (vS y)) (H2 : Ev c outer D h0 L m led A env e2 (vS z)) (hz : y.length + z.length ≤ sizeLine) : Ev c outer D h0 L m led A env (.BinOp e1 .Add e2 pos) (vS (y ++ z)) :=
  e_bin H1 H2 fun v1 v2 ⟨u, e1⟩ ⟨w, e2⟩ Q E s h t K => by subst e1 e2; exact i_cat (fun _ _ => K _ _ ⟨_, rfl⟩) hz
end
/-- where the loop of read_params stands -/
noncomputable def RPJ (c : Ct) (role : Str) (ks : List Int) (u2 : Tok) (ps : List (Int × List Int)) (Ts : List Addr) (I fd md U F : Addr) (i : Nat) (m : Str → Option Value) (led : Led) : Prop :=
  ∃ (u : List (Int × List Int)) (f : List (Str × Val)) (ms : List Int) (kvs : List (Str × Value)) (Us : List Addr) (vl : Led),
    led = [(I, ItL F i), (fd, Dct c ((UNK, .ref U) :: kvs)), (md, DctI c (mets ms)), (U, LN (Us.map .ref)), (F, LN (Ts.map .ref))] ++ vl ∧ (∀ p ∈ PLd Ts ps, p ∈ vl) ∧ (∀ p ∈ PLd Us u, p ∈ vl) ∧
    Us.length = u.length ∧ DL f kvs vl ∧ (kvs.length ≤ i ∧ ms.length ≤ i ∧ u.length ≤ i) ∧ m (Str.ofString "found") = some (.ref fd) ∧ m (Str.ofString "met") = some (.ref md) ∧ m (Str.ofString "role") = some (.str role u2) ∧
    rdParams role ks = rpGo role (ps.drop i) u f ms
theorem drop_at {α : Type} {ps : List α} {i : Nat} {q : α} (h : ps[i]? = some q) : ps.drop i = q :: ps.drop (i + 1) := by
  obtain ⟨h1, e1⟩ := List.getElem?_eq_some_iff.mp h
  rw [← e1]
  exact List.drop_eq_getElem_cons h1
theorem row_no {nu : Int} (q : (rowOf nu == Value.none) = true) : ¬ (0 ≤ nu ∧ nu < 17) := fun z => by
  unfold rowOf at q
  rw [if_pos z] at q
  exact absurd q (by simp)
theorem row_yes {nu : Int} (q : (rowOf nu == Value.none) = false) : 0 ≤ nu ∧ nu < 17 := by
  by_cases z : 0 ≤ nu ∧ nu < 17
  · exact z
  · unfold rowOf at q
    rw [if_neg z] at q
    exact absurd q (by simp)
theorem of_any {o1 o2 o3 o4 : Tok} : ∀ y ∈ [Value.str (Str.ofString "original_destination_connection_id") o1, .str (Str.ofString "stateless_reset_token") o2, .str (Str.ofString "preferred_address") o3, .str (Str.ofString "retry_source_connection_id") o4], ∃ z t, y = .str z t := by
  intro y hy
  simp only [List.mem_cons, List.not_mem_nil, or_false] at hy
  rcases hy with rfl | rfl | rfl | rfl <;> exact ⟨_, _, rfl⟩
set_option maxHeartbeats 16000000 in
theorem spec_read_params {hB : Heap} {b : Array UInt8} {ks : List Int} {role : Str} {u1 u2 : Tok} (hr : role.length ≤ 60) (hk : KBw.bInts b = ks) (hf : ks.length ≤ 4000) (C : Cx c (n + 7) A outer hB none) (g : G c hB)
    (K : ∀ un f, rdParams role ks = some (un, f) → ∀ d kvs0 U Us kvs vl h' t', (d == sysModules) = false → NT dfl kvs0 → Us.length = un.length → DL f kvs vl → (∀ p ∈ PLd Us un, p ∈ vl) →
      Ret c (fsOf outer) hB [] ((d, Dct c (merged (stored (merged [] kvs0) DAM (.bool false)) ((UNK, .ref U) :: kvs))) :: (U, LN (Us.map .ref)) :: vl) h' → Q (.ref d) (Mk s h' t'))
    (KE : rdParams role ks = none → ∀ e h' t', Fly hB 38 (some 8) e .none h' → Ext c [] (fsOf outer) hB h' → E (.ref e) (Mk s h' t')) :
    wpAny (model pw c.w) A (call (.ref 259) [.bytes b u1, .str role u2]) Q E (Mk s hB t) := by
  refine enterE (binds := [(Str.ofString "data", .bytes b u1), (Str.ofString "role", .str role u2)]) C g pre_nil (by rfl) (by rfl) rfl (by rfl) (by decide) (fun L h2 t2 m QF EF A' hm hQ _ hE S C2 => ?_)
  have b0 := (hm (Str.ofString "data")).trans (b := some (Value.bytes b u1)) (by rfl)
  have b1 := (hm (Str.ofString "role")).trans (b := some (Value.str role u2)) (by rfl)
  clear hm
  with_reducible refine x_asgSw [Str.ofString "found", Str.ofString "met"] ?_
  with_reducible refine x_tupQ (x_arg ?_)
  with_reducible refine x_dictS S (fun fd h f0 fs S _ => ?_)
  with_reducible refine x_pair ?_
  with_reducible refine i_str (fun _ _ => x_lstQ (x_argN ?_))
  with_reducible refine mk_listN S (by with_unfolding_all exact Nat.le_of_ble_eq_true rfl) (fun U h U0 S _ => ?_)
  with_reducible refine x_pairN ?_
  have S : St c outer _ hB L _ [(fd, Dct c []), (U, LN [])] h := S.pick [1, 0]
  with_reducible refine mk_dictS S (by with_unfolding_all rfl) (by with_unfolding_all exact List.nodup_cons.mpr ⟨List.not_mem_nil, List.nodup_nil⟩) (fun h t S => ?_)
  have S : St c outer _ hB L _ [(fd, Dct c [(UNK, .ref U)]), (U, LN (([] : List Addr).map .ref))] h := S
  with_reducible refine x_arg ?_
  with_reducible refine mk_dictI0 S (fun md h m0 ms0 S _ => ?_)
  with_reducible refine x_argN ?_
  with_reducible refine mk_tupQ S (by with_unfolding_all exact Nat.le_of_ble_eq_true rfl) (fun T h T0 S _ => ?_)
  refine x_unpI S S.head C2.hd rfl (fun h S => ?_)
  refine b_name S (fun h t S => ?_)
  refine b_name S (fun h t S => ?_)
  refine assignInOrder_nil ?_
  obtain ⟨m1, em, S⟩ := S.op
  have f1 : m1 (Str.ofString "found") = some (.ref fd) := by rw [em]; ((repeat refine it_ne ?_ (by decide)); first | assumption | exact it_eq | with_unfolding_all rfl)
  have f2 : m1 (Str.ofString "met") = some (.ref md) := by rw [em]; ((repeat refine it_ne ?_ (by decide)); first | assumption | exact it_eq | with_unfolding_all rfl)
  have f3 : m1 (Str.ofString "role") = some (.str role u2) := by rw [em]; ((repeat refine it_ne ?_ (by decide)); first | assumption | exact it_eq | with_unfolding_all rfl)
  have f4 : m1 (Str.ofString "data") = some (.bytes b u1) := by rw [em]; ((repeat refine it_ne ?_ (by decide)); first | assumption | exact it_eq | with_unfolding_all rfl)
  clear em
  have S : St c outer _ hB L m1 [(md, DctI c (mets [])), (fd, Dct c [(UNK, .ref U)]), (U, LN (([] : List Addr).map .ref))] h := S.drop 1
  refine x_for ?_
  refine x_call (x_glob S (g_read_pairs S.g) (x_cw (K := hd.heap_1 c.w.params) (by rfl) (x_arg (x_loc S f4 (x_argN ⟨S.g.X, ?_⟩)))))
  refine spec_read_pairs (n := n) hk (Nat.le_trans hf (by decide)) (S.cx C2) S.g (fun ps q1 F Ts h t eT R => ?_) (fun q1 e h3 t3 X x => ?_)
  rotate_left
  · exact hE _ _ (x_out S rfl rfl C2.fr X (fly_h rfl x) (fun b q => (nomatch q)) (fun h4 X4 x4 => KE (by unfold rdParams; rw [q1]; rfl) e h4 t3 X4 x4))
  have S := S.ret (pre := []) R rfl
  refine iter_list S S.head.ln (fun I h I0 S _ => ?_)
  have lps : ps.length ≤ ks.length := pairsF_len q1
  have S : St c outer _ hB L m1 ([(I, ItL F 0), (F, LN (Ts.map .ref)), (md, DctI c (mets [])), (fd, Dct c [(UNK, .ref U)]), (U, LN (([] : List Addr).map .ref))] ++ PLd Ts ps) h := S.perm (.cons _ (.cons _ List.perm_append_comm))
  have S : St c outer _ hB L m1 ([(I, ItL F 0), (fd, Dct c [(UNK, .ref U)]), (md, DctI c (mets [])), (U, LN (([] : List Addr).map .ref)), (F, LN (Ts.map .ref))] ++ PLd Ts ps) h := S.pickA [0, 3, 2, 4, 1]
  refine x_loopE ps.length (RPJ c role ks u2 ps Ts I fd md U F) S ⟨[], [], [], [], [], _, rfl, fun _ h => h, fun _ h => (nomatch h), rfl, .nil, ⟨Nat.le_refl _, Nat.le_refl _, Nat.le_refl _⟩, f1, f2, f3, by unfold rdParams; rw [q1]; rfl⟩ (fun i m led h t QT ET hi S hJ nx rt hET => ?_) (fun m led h t EF S hJ => ?_)
  · obtain ⟨un, f, ms, kvs, Us, vl, rfl, hTs, hUs, eU, dl, ll, m1, m2, m3, hrd⟩ := hJ
    obtain ⟨Ti, hTi⟩ : ∃ x, Ts[i]? = some x := ⟨Ts[i], List.getElem?_eq_getElem (eT ▸ hi)⟩
    obtain ⟨⟨nu, vx⟩, hqi⟩ : ∃ x, ps[i]? = some x := ⟨ps[i], List.getElem?_eq_getElem hi⟩
    refine next_list S (S.get 4 rfl : At h F _).ln (by rw [List.getElem?_map, hTi]; rfl) (fun h S _ => ?_)
    refine own_goL S.head ?_
    obtain ⟨oT, eT1, ut, bt, wt, tup, hbt⟩ : At h Ti (PK (nu, vx)) := S.lat _ (List.mem_append_right [_, _, _, _, _] (hTs _ (PLd_mem hTi hqi)))
    have hbt : KBw.bInts bt = vx := hbt
    have lvx : vx.length ≤ ks.length := pairsF_val q1 _ (List.mem_of_getElem? hqi)
    refine x_unp S ⟨oT, eT1, tup⟩ C2.hd (fun h S _ => ?_)
    refine a_name S (fun h t S => ?_)
    refine a_name S (fun h t S => ?_)
    refine a_nil ?_
    obtain ⟨m4, em, S⟩ := S.op
    have m1 : m4 (Str.ofString "found") = some (.ref fd) := by rw [em]; ((repeat refine it_ne ?_ (by decide)); first | assumption | exact it_eq | with_unfolding_all rfl)
    have m2 : m4 (Str.ofString "met") = some (.ref md) := by rw [em]; ((repeat refine it_ne ?_ (by decide)); first | assumption | exact it_eq | with_unfolding_all rfl)
    have m3 : m4 (Str.ofString "role") = some (.str role u2) := by rw [em]; ((repeat refine it_ne ?_ (by decide)); first | assumption | exact it_eq | with_unfolding_all rfl)
    have n1 : m4 (Str.ofString "number") = some (.int nu ut) := by rw [em]; ((repeat refine it_ne ?_ (by decide)); first | assumption | exact it_eq | with_unfolding_all rfl)
    have n2 : m4 (Str.ofString "value") = some (.bytes bt wt) := by rw [em]; ((repeat refine it_ne ?_ (by decide)); first | assumption | exact it_eq | with_unfolding_all rfl)
    clear em
    rw [drop_at hqi] at hrd
    unfold rpGo at hrd
    dsimp only at hrd
    refine x_ifE (B := fun r => r = decide (nu ∈ ms)) (.mk fun S K => wpAny_isTrue_Compare1 (x_loc S n1 (x_loc S m2 (d_inI (S.get 2 rfl) ms0 (fun t => by rw [mets_in]; exact wpAny_truthy_bool (K _ _ _ rfl S)))))) S (fun h t q S => ?_) (fun h t q S => x_nilN ?_)
    · exact x_refuseL (n := n + 3) e_str S (by decide) (C2.le (Nat.le_add_right _ 0)) (fun b q => (nomatch q)) hET hE (fun e h t X x => KE (by rw [hrd, if_pos (of_decide_eq_true q.symm)]) e h t X x)
    have q2 : nu ∉ ms := of_decide_eq_false q.symm
    rw [if_neg q2] at hrd
    refine x_asgSub (i_bool (x_loc S m2 (x_loc S n1 ?_)))
    have S : St c outer _ hB L m4 ([(md, DctI c (mets ms)), (I, ItL F (i + 1)), (fd, Dct c ((UNK, .ref U) :: kvs)), (U, LN (Us.map .ref)), (F, LN (Ts.map .ref))] ++ vl) h := S.pickA (X := [(I, ItL F (i + 1)), (fd, Dct c ((UNK, .ref U) :: kvs)), (md, DctI c (mets ms)), (U, LN (Us.map .ref)), (F, LN (Ts.map .ref))]) [2, 0, 1, 3, 4]
    refine d_setI S (by unfold mets; rw [List.length_map]; (first | lia | omega)) (fun h t S => ?_)
    rw [mets_add ms nu q2] at S
    refine x_asg (x_call (x_glob S (g_row_by_number S.g) (x_cw (K := hd.heap_1 c.w.params) (by rfl) (x_arg (x_loc S n1 (x_argN ⟨S.g.X, ?_⟩))))))
    refine spec_row (n := n + 5) (S.cx C2) S.g (fun h t R => ?_)
    have S : St c outer _ hB L m4 ([(I, ItL F (i + 1)), (fd, Dct c ((UNK, .ref U) :: kvs)), (md, DctI c (mets (ms ++ [nu]))), (U, LN (Us.map .ref)), (F, LN (Ts.map .ref))] ++ vl) h := (S.ret0 R).pickA (X := [(md, DctI c (mets (ms ++ [nu]))), (I, ItL F (i + 1)), (fd, Dct c ((UNK, .ref U) :: kvs)), (U, LN (Us.map .ref)), (F, LN (Ts.map .ref))]) [1, 2, 0, 3, 4]
    refine x_store S (fun h t S => ?_)
    obtain ⟨m5, em, S⟩ := S.op
    have m1 : m5 (Str.ofString "found") = some (.ref fd) := by rw [em]; ((repeat refine it_ne ?_ (by decide)); first | assumption | exact it_eq | with_unfolding_all rfl)
    have m2 : m5 (Str.ofString "met") = some (.ref md) := by rw [em]; ((repeat refine it_ne ?_ (by decide)); first | assumption | exact it_eq | with_unfolding_all rfl)
    have m3 : m5 (Str.ofString "role") = some (.str role u2) := by rw [em]; ((repeat refine it_ne ?_ (by decide)); first | assumption | exact it_eq | with_unfolding_all rfl)
    have n1 : m5 (Str.ofString "number") = some (.int nu ut) := by rw [em]; ((repeat refine it_ne ?_ (by decide)); first | assumption | exact it_eq | with_unfolding_all rfl)
    have n2 : m5 (Str.ofString "value") = some (.bytes bt wt) := by rw [em]; ((repeat refine it_ne ?_ (by decide)); first | assumption | exact it_eq | with_unfolding_all rfl)
    have n3 : m5 (Str.ofString "row") = some (rowOf nu) := by rw [em]; ((repeat refine it_ne ?_ (by decide)); first | assumption | exact it_eq | with_unfolding_all rfl)
    clear em
    refine x_ifE (B := fun r => r = (rowOf nu == Value.none)) (.mk fun S K => wpAny_isTrue_Compare1 (x_loc S n3 (i_none (c_isNone (wpAny_truthy_bool (K _ _ _ rfl S)))))) S (fun h t q S => ?_) (fun h t q S => ?_)
    · rw [if_neg (row_no q.symm)] at hrd
      refine x_expr (x_callA (Subscript_ (x_loc S m1 (i_str (fun _ _ => d_item (S.get 1 rfl) valueAt_head (fun t => m_append (S.get 3 rfl) (x_cwB1 (x_arg (x_tupQ (x_arg (x_loc S n1 (x_arg (x_loc S n2 (x_argN (mk_tupQ S (Nat.le_of_ble_eq_true rfl) (fun T h T0 S _ => x_argN ?_))))))))))))))))
      have S : St c outer _ hB L m5 ([(U, LN (Us.map .ref)), (T, Tup [.int nu ut, .bytes bt wt]), (I, ItL F (i + 1)), (fd, Dct c ((UNK, .ref U) :: kvs)), (md, DctI c (mets (ms ++ [nu]))), (F, LN (Ts.map .ref))] ++ vl) h := S.pickA (X := [(T, Tup [.int nu ut, .bytes bt wt]), (I, ItL F (i + 1)), (fd, Dct c ((UNK, .ref U) :: kvs)), (md, DctI c (mets (ms ++ [nu]))), (U, LN (Us.map .ref)), (F, LN (Ts.map .ref))]) [4, 0, 1, 2, 3, 5]
      refine k_append S (by rw [List.length_map]; (first | lia | omega)) (fun h S => ?_)
      have S := S.weak2 (l' := PK (nu, vx)) (fun o z => ⟨_, _, _, z, hbt⟩)
      have S : St c outer _ hB L m5 ([(I, ItL F (i + 1)), (fd, Dct c ((UNK, .ref U) :: kvs)), (md, DctI c (mets (ms ++ [nu]))), (U, LN (Us.map .ref ++ [.ref T])), (F, LN (Ts.map .ref))] ++ ((T, PK (nu, vx)) :: vl)) h := S.pickA (X := [(U, LN (Us.map .ref ++ [.ref T])), (T, PK (nu, vx)), (I, ItL F (i + 1)), (fd, Dct c ((UNK, .ref U) :: kvs)), (md, DctI c (mets (ms ++ [nu]))), (F, LN (Ts.map .ref))]) [2, 3, 4, 0, 5, 1]
      refine x_nilN (x_nil (nx _ _ _ _ S ⟨un ++ [(nu, vx)], f, ms ++ [nu], kvs, Us ++ [T], (T, PK (nu, vx)) :: vl, by rw [List.map_append]; rfl, fun p hp => List.mem_cons_of_mem _ (hTs p hp), fun p hp => ?_, by rw [List.length_append, List.length_append, eU]; rfl, dl.more fun p hp => List.mem_cons_of_mem _ hp, ⟨Nat.le_succ_of_le ll.1, by rw [List.length_append]; exact Nat.succ_le_succ ll.2.1, by rw [List.length_append]; exact Nat.succ_le_succ ll.2.2⟩, m1, m2, m3, hrd⟩))
      rw [PLd_snoc eU] at hp
      rcases List.mem_append.mp hp with hp | hp
      · exact List.mem_cons_of_mem _ (hUs p hp)
      · exact List.mem_singleton.mp hp ▸ List.mem_cons_self ..
    have hk' := row_yes q.symm
    rw [if_pos hk'] at hrd
    rw [show rowOf nu = .ref (154 + nu.toNat) by unfold rowOf; rw [if_pos hk']] at n3
    have h17 : nu.toNat < 17 := by (first | lia | omega)
    have pok := pnames_ok _ (pname_mem h17)
    refine x_ifE (b_and (B := fun r => r = ((role == Str.ofString "client") && ofServer.any fun y => y == pname nu.toNat)) (b_eqS (Ev.mono (e_loc m3) fun v q => ⟨u2, q⟩) e_str) (fun q4 => .mk fun S K => wpAny_isTrue_Compare1 ((e_row1 n3 h17).run S fun v h t ⟨u, q⟩ S => x_glob S (g_OF_SERVER S.g) (by
      subst q
      obtain ⟨o1, o2, o3, o4, hof⟩ := OF_at S.g
      exact c_inT (eqS (pname nu.toNat)) hof (fun y hy => eqS_at (of_any y hy)) (wpAny_truthy_bool (K _ _ _ (by rw [← q4, Bool.true_and]; rfl) S))))) (fun q4 => by rw [← q4]; rfl)) S (fun h t q5 S => ?_) (fun h t q5 S => ?_)
    · have cl : (Str.ofString "a client tells ").length + (pname nu.toNat).length ≤ sizeLine ∧ (Str.ofString "a client tells " ++ pname nu.toNat).length ≤ 1000 := cat_len (k := 15) (by decide) (by have := pok.1; (first | lia | omega))
      exact x_refuseL (n := n + 3) (e_catS e_str (e_row1 n3 h17) cl.1) S cl.2 (C2.le (Nat.le_add_right _ 0)) (fun b q => (nomatch q)) hET hE (fun e h t X x => KE (by rw [hrd, if_pos q5.symm]) e h t X x)
    rw [if_neg (by rw [← q5]; exact Bool.false_ne_true)] at hrd
    refine x_asgSub (x_call (x_glob S (g_read_value S.g) (x_cw (K := hd.heap_1 c.w.params) (by rfl) (x_arg ((e_row1 n3 h17).run S fun v h t ⟨ua, qa⟩ S => x_arg ((e_row2 n3 h17).run S fun v2 h t ⟨ub, qb⟩ S => x_arg (x_loc S n2 (x_argN ⟨S.g.X, ?_⟩))))))))
    subst qa qb
    refine spec_read_value (n := n) pok.1 hbt (Nat.le_trans lvx (Nat.le_trans hf (by decide))) (S.cx C2) S.g (fun x qv v news h t vv R => ?_) (fun qv e h3 t3 X x => hET _ _ (x_againL S rfl rfl C2 X (fly_h rfl x) (fun h5 X5 k5 => hE _ _ (x_out S rfl rfl C2.fr X5 k5 (fun b q => (nomatch q)) (fun h4 X4 x4 => KE (by rw [hrd, qv]) e h4 _ X4 x4)))))
    have S := S.ret (pre := []) R rfl
    have S : St c outer _ hB L m5 ([(I, ItL F (i + 1)), (fd, Dct c ((UNK, .ref U) :: kvs)), (md, DctI c (mets (ms ++ [nu]))), (U, LN (Us.map .ref)), (F, LN (Ts.map .ref))] ++ (news ++ vl)) h := S.perm (List.perm_append_comm_assoc ..)
    have S : St c outer _ hB L m5 ([(fd, Dct c ((UNK, .ref U) :: kvs)), (I, ItL F (i + 1)), (md, DctI c (mets (ms ++ [nu]))), (U, LN (Us.map .ref)), (F, LN (Ts.map .ref))] ++ (news ++ vl)) h := S.pickA (X := [(I, ItL F (i + 1)), (fd, Dct c ((UNK, .ref U) :: kvs)), (md, DctI c (mets (ms ++ [nu]))), (U, LN (Us.map .ref)), (F, LN (Ts.map .ref))]) [1, 0, 2, 3, 4]
    refine x_loc S m1 ((e_row1 n3 h17).run S fun v2 h t ⟨uc, qc⟩ S => ?_)
    subst qc
    refine d_setS S (by rw [List.length_cons]; (first | lia | omega)) (fun h t S => ?_)
    rw [stored_ne pok.2] at S
    have S : St c outer _ hB L m5 ([(I, ItL F (i + 1)), (fd, Dct c ((UNK, .ref U) :: stored kvs (pname nu.toNat) v)), (md, DctI c (mets (ms ++ [nu]))), (U, LN (Us.map .ref)), (F, LN (Ts.map .ref))] ++ (news ++ vl)) h := S.pickA (X := [(fd, Dct c ((UNK, .ref U) :: stored kvs (pname nu.toNat) v)), (I, ItL F (i + 1)), (md, DctI c (mets (ms ++ [nu]))), (U, LN (Us.map .ref)), (F, LN (Ts.map .ref))]) [1, 0, 2, 3, 4]
    rw [qv] at hrd
    refine x_nilN (x_nilN (x_nil (nx _ _ _ _ S ⟨un, sto f (pname nu.toNat) x, ms ++ [nu], stored kvs (pname nu.toNat) v, Us, news ++ vl, rfl, fun p hp => List.mem_append_right _ (hTs p hp), fun p hp => List.mem_append_right _ (hUs p hp), eU, (dl.more fun p hp => List.mem_append_right _ hp).sto vv fun p hp => List.mem_append_left _ hp, ⟨Nat.le_trans (stored_len ..) (Nat.succ_le_succ ll.1), by rw [List.length_append]; exact Nat.succ_le_succ ll.2.1, Nat.le_succ_of_le ll.2.2⟩, m1, m2, m3, hrd⟩)))
  · obtain ⟨un, f, ms, kvs, Us, vl, rfl, hTs, hUs, eU, dl, ll, m1, m2, m3, hrd⟩ := hJ
    rw [List.drop_length] at hrd
    unfold rpGo at hrd
    refine end_list S I0 (S.get 4 rfl : At h F _).ln (by rw [List.getElem?_map, List.getElem?_eq_none (by (first | lia | omega))]; rfl) C2.hd (fun h S => ?_)
    refine x_ret (x_call (x_glob S (g_with_defaults S.g) (x_cw (K := hd.heap_1 c.w.params) (by rfl) (x_arg (x_loc S m1 (x_argN ⟨S.g.X, ?_⟩))))))
    refine spec_with_defaults (n := n + 5) S.head (S.off rfl (List.mem_cons_self ..)) fs (by rw [List.length_cons]; (first | lia | omega)) (S.cx C2) S.g (fun d kvs0 h t dsys nt R => ?_)
    have S := S.ret (pre := []) R rfl
    have S : St c outer _ hB L m ([(d, Dct c (merged (stored (merged [] kvs0) DAM (.bool false)) ((UNK, .ref U) :: kvs))), (U, LN (Us.map .ref))] ++ vl) h := St.pickA (X := [(d, Dct c (merged (stored (merged [] kvs0) DAM (.bool false)) ((UNK, .ref U) :: kvs))), (fd, Dct c ((UNK, .ref U) :: kvs)), (md, DctI c (mets ms)), (U, LN (Us.map .ref)), (F, LN (Ts.map .ref))]) S [0, 3]
    exact hQ _ _ (K un f hrd d kvs0 U Us kvs vl _ _ dsys nt eU dl hUs (St.done (post := []) S rfl))


-- F31
open PyProof.Rows in
theorem is_str {k : Str} {v : Value} (h : (PySem.strKind pw c.w).is k v = true) : ∃ u, v = .str k u := by
  cases v <;> simp [PySem.strKind, Value.isStrOf] at h
  subst h
  exact ⟨_, rfl⟩
theorem strs_are : ∀ {vs : List Value} {ks : List Str}, vs.length = ks.length → (∀ (j : Nat) (v : Value), vs[j]? = some v → ∃ k, ks[j]? = some k ∧ ∃ u, v = .str k u) → StrsAre vs ks
  | [], [], _, _ => .nil
  | v :: vs, k :: ks, hl, h => by
    obtain ⟨k', e, u, rfl⟩ := h 0 v rfl
    cases e
    exact .cons k u (strs_are (by simpa using hl) fun j w e => h (j + 1) w (by simpa using e))
/-- sorted(d) -/
theorem d_sorted {kvs : List (Str × Value)} (S : St c outer D h0 L m led h) (ha : At h a (Dct c kvs)) (ns : (a == sysModules) = false) (hh : A.handled = none) (h64 : kvs.length < 64)
    (K : ∀ F vs ss h' t', StrsAre vs ss → ss.Perm (kvs.map (·.1)) → h0.get? F = none → St c outer D h0 L m ((F, Lst vs) :: led) h' → Q (.ref F) (Mk s h' t')) :
    wpAny (model pw c.w) A (call (.builtin "sorted") [.ref a]) Q E (Mk s h t) := by
  obtain ⟨ep, hat⟩ := ha.dct.dictAt
  refine Calls.call_function_entry kind_sorted plain_sorted entry_sorted (args_sorted1 _) ?_
  unfold Builtin.«sorted»
  refine wpAny_bind (m := checkCount "sorted" 1 1 _) (wpAny_pure ?_)
  refine wpAny_bind (kdu_collect (A := A.in1) (s := Mk s h t) (kdl_dict (knd := PySem.strKind pw c.w) (kvs := kvs) (ep := ep) ns) hh hat (by rw [sizeLine_eq]; (first | lia | omega)) fun h1 t1 acc hk hacc => ?_)
  have hl : acc.toList.length = kvs.length := by rw [Array.length_toList]; exact hacc.1
  have hS : StrsAre acc.toList (kvs.map (·.1)) := strs_are (by rw [hl, List.length_map]) fun j v e => by
    obtain ⟨k, x, e1, e2⟩ := hacc.2 j v (by rw [← Array.getElem?_toList]; exact e)
    exact ⟨k, by rw [List.getElem?_map, e1]; rfl, is_str e2⟩
  refine wpAny_bind (wpAny_newList ?_ (by rw [hl, sizeLine_eq]; (first | lia | omega)))
  have S1 := S.keep hk
  have ho : (h1.push { cls := .type "list", data := .seq acc.toList.toArray }).get? h1.objs.size = some (seqObj "list" acc.toList.toArray 0) := Heap.get?_push_size _ rfl
  refine wpAny_bind (wpAny_holding (wpAny_call_entry (s := Mk s (h1.push { cls := .type "list", data := .seq acc.toList.toArray }) t1) slot_list_sort ⟨_, ho, rfl⟩ entry_list_sort (list_sort_treeK strKind_oneLt ho hS.keysOf (fun v₁ v₂ rest e => keyKind_strs (by rw [← e]; exact hS)) (by rw [hl]; exact h64) fun st' hp hs => ⟨_, rfl, ?_⟩) (args_list_sort _)))
  refine wpAny_pure ⟨_, rfl, ?_⟩
  obtain ⟨ss', a1, a2, a3⟩ := sorted_out_str hS hp hs
  revert a1
  generalize (arrOf st').map (·.2) = out
  intro a1
  obtain ⟨e, he⟩ := sortedHeap_at (out := out) ho
  refine K h1.objs.size out.toList ss' _ t1 a1 a2 (S1.old (new_size h1)) ?_
  refine S1.more (news := [(h1.objs.size, Lst out.toList)]) (fun b o eb => ?_) (fun p hp => ?_) (by simp)
  · have lb := Heap.lt_size eb
    exact (sortedHeap_old (Nat.ne_of_lt lb) (by show b < (h1.push _).objs.size; rw [size_push']; exact Nat.lt_succ_of_lt lb)).trans (Heap.get?_push_of_some _ eb)
  · rw [List.mem_singleton.mp hp]
    exact ⟨⟨_, he, rfl, e, rfl⟩, new_size h1⟩
/-- a dict's keys, one by one -/
noncomputable def ItD (d : Addr) (n ep i : Nat) : Kd := fun o => o.cls = .type "dict_keyiterator" ∧ o.data = .fields #[.ref d, .int i 0, .int n 0, .int ep 0]
noncomputable def DcE (c : Ct) (kvs : List (Str × Value)) (ep : Nat) : Kd := fun o => KdkAt (PySem.strKind pw c.w) o kvs ep
theorem At.dce {kvs : List (Str × Value)} (x : At h a (Dct c kvs)) : ∃ ep, At h a (DcE c kvs ep) := let ⟨o, e, k⟩ := x; let ⟨ep, q⟩ := KdkAt.of k; ⟨ep, o, e, q⟩
theorem At.dctE {kvs : List (Str × Value)} {ep : Nat} (x : At h a (DcE c kvs ep)) : h.DictAt (PySem.strKind pw c.w) a kvs ep := let ⟨o, e, k⟩ := x; k.dictAt e
theorem At.ofE {kvs : List (Str × Value)} {ep : Nat} (x : At h a (DcE c kvs ep)) : At h a (Dct c kvs) := At.ofDct x.dctE.dictOf
theorem iter_dict {d : Addr} {kvs : List (Str × Value)} {ep : Nat} (S : St c outer D h0 L m led h) (ha : At h d (DcE c kvs ep)) (ns : (d == sysModules) = false)
    (K : ∀ I h', h0.get? I = none → St c outer D h0 L m ((I, ItD d kvs.length ep 0) :: led) h' → Q (.ref I) (Mk s h' t)) : wpAny (model pw c.w) A (pyIter (.ref d)) Q E (Mk s h t) :=
  wpAny_pyIter_dict (s := Mk s h t) ns ha.dctE (K _ _ (S.old (new_size h)) (S.push _ _ ⟨rfl, rfl⟩))
theorem next_dict {I d : Addr} {kvs : List (Str × Value)} {ep i : Nat} {k : Str} {v : Value} {QO : Option Value → Shared → Prop} (S : St c outer D h0 L m ((I, ItD d kvs.length ep i) :: led) h) (ha : At h d (DcE c kvs ep)) (hx : kvs[i]? = some (k, v))
    (K : ∀ u h', St c outer D h0 L m ((I, ItD d kvs.length ep (i + 1)) :: led) h' → QO (some (.str k u)) (Mk s h' t)) : wpAny (model pw c.w) A (pyNext (.ref I)) QO E (Mk s h t) := by
  obtain ⟨o, e, hc, hdt⟩ := S.head
  refine wpAny_pyNext_dict_item (s := Mk s h t) ⟨o, e, hc, hdt⟩ ha.dctE hx fun key h' hk hi sb => ?_
  obtain ⟨u, rfl⟩ := is_str hk
  exact K u h' (S.upd sb (let ⟨o, e, c, d⟩ := hi; ⟨o, e, c, d⟩))
theorem end_dict {I d : Addr} {kvs : List (Str × Value)} {ep i : Nat} {QO : Option Value → Shared → Prop} (S : St c outer D h0 L m ((I, ItD d kvs.length ep i) :: led) h) (hI : h0.get? I = none) (ha : At h d (DcE c kvs ep)) (hx : kvs[i]? = none) (hh : A.handled = none)
    (K : ∀ h', St c outer D h0 L m led h' → QO none (Mk s h' t)) : wpAny (model pw c.w) A (pyNext (.ref I)) QO E (Mk s h t) := by
  obtain ⟨o, e, hc, hdt⟩ := S.head
  exact wpAny_pyNext_dict_end (s := Mk s h t) hh ⟨o, e, hc, hdt⟩ ha.dctE hx fun h' eb => K h' (S.lose hI fun b o ne e => eb b o ne e)


-- F32
noncomputable def lnums : List (Str × Int) := [(Str.ofString "max_idle_timeout", 1), (Str.ofString "max_udp_payload_size", 3), (Str.ofString "initial_max_data", 4), (Str.ofString "ack_delay_exponent", 10), (Str.ofString "initial_max_streams_bidi", 8), (Str.ofString "max_ack_delay", 11), (Str.ofString "active_connection_id_limit", 14), (Str.ofString "initial_max_stream_data_uni", 7)]
noncomputable def locts : List (Str × Int) := [(Str.ofString "original_destination_connection_id", 0), (Str.ofString "stateless_reset_token", 2), (Str.ofString "initial_source_connection_id", 15), (Str.ofString "retry_source_connection_id", 16)]
theorem spec_law_numbers {hB : Heap} (C : Cx c (n + 1) A outer hB hv) (g : G c hB)
    (K : ∀ d kvs h' t', (d == sysModules) = false → NT lnums kvs → Ret c (fsOf outer) hB [] [(d, Dct c kvs)] h' → Q (.ref d) (Mk s h' t')) :
    wpAny (model pw c.w) A (call (.ref 280) []) Q E (Mk s hB t) := by
  refine enterO (binds := []) C g pre_nil (by rfl) (by rfl) rfl (by rfl) (by decide) (fun L h t m QF EF A' hm hQ hN S C2 => ?_)
  refine x_ret ?_
  with_reducible refine x_dictS S (fun d h d0 ds S _ => ?_)
  repeat (with_reducible refine x_pair ?_; with_reducible refine i_str (fun _ _ => ?_); with_reducible refine i_int (fun _ _ => ?_))
  with_reducible refine x_pairN ?_
  with_reducible refine mk_dictS S (by with_unfolding_all rfl) (by with_unfolding_all exact (show (lnums.map (·.1)).Nodup by decide +kernel)) (fun h t S => ?_)
  exact hQ _ _ (K d _ h t ds (.cons (.cons (.cons (.cons (.cons (.cons (.cons (.cons .nil)))))))) (S.done (post := []) rfl))
theorem spec_law_octets {hB : Heap} (C : Cx c (n + 1) A outer hB hv) (g : G c hB)
    (K : ∀ d kvs h' t', (d == sysModules) = false → NT locts kvs → Ret c (fsOf outer) hB [] [(d, Dct c kvs)] h' → Q (.ref d) (Mk s h' t')) :
    wpAny (model pw c.w) A (call (.ref 287) []) Q E (Mk s hB t) := by
  refine enterO (binds := []) C g pre_nil (by rfl) (by rfl) rfl (by rfl) (by decide) (fun L h t m QF EF A' hm hQ hN S C2 => ?_)
  refine x_ret ?_
  with_reducible refine x_dictS S (fun d h d0 ds S _ => ?_)
  repeat (with_reducible refine x_pair ?_; with_reducible refine i_str (fun _ _ => ?_); with_reducible refine i_int (fun _ _ => ?_))
  with_reducible refine x_pairN ?_
  with_reducible refine mk_dictS S (by with_unfolding_all rfl) (by with_unfolding_all exact (show (locts.map (·.1)).Nodup by decide +kernel)) (fun h t S => ?_)
  exact hQ _ _ (K d _ h t ds (.cons (.cons (.cons (.cons .nil)))) (S.done (post := []) rfl))


-- F33
/-! enumerate over a tuple -/
open AutoSeq1 (wpAny_loadPart') in
theorem meets_enumT (l : Addr) (items : Array Value) (n : Nat) (dct : Option Addr) (sl : Array (Option Value)) :
    Meets (Builtin.«enumerate.__new__» ⟨[.type "enumerate", .ref l], []⟩) (fun _ R s => s.heap.get? l = some { cls := .type "tuple", dict := dct, data := .seq items n, slots := sl } ∧
      R (.ok (.ret (.ref (s.heap.push { cls := .type "tuple_iterator", data := .fields #[.ref l, .int 0 0] }).objs.size)))
        { s with heap := (s.heap.push { cls := .type "tuple_iterator", data := .fields #[.ref l, .int 0 0] }).push { cls := .type "enumerate", data := .fields #[.none, .bool false, .ref s.heap.objs.size, rawInt 0, .none, .none] } }) :=
  .of_wp fun prog w A R s h => by
    obtain ⟨hp, g, d, tk, os⟩ := s; obtain ⟨hl, h⟩ := h
    have hsub := sub_enumerate
    have hL : Heap.IsTuple (Shared.heap ⟨hp, g, d, tk, os⟩) l items := ⟨_, hl, rfl, n, rfl⟩
    wp_walk using wpAny_loadPart' hl
    refine wpAny_stack_any fun st => wpAny_pure ?_
    split
    · rename_i c _ _ _ _ _
      cases (c == Value.type "enumerate") <;> (wp_walk using wpAny_loadPart' hl, wpAny_pyIter_tuple hL; exact ⟨_, rfl, h⟩)
    · wp_walk using wpAny_loadPart' hl, wpAny_pyIter_tuple hL
      exact ⟨_, rfl, h⟩
section
variable {I l e T : Addr} {i : Nat} {items : Array Value} {x : Value}
theorem nextOf_tup {s : Shared} (hit : s.heap.IsTupleIter I l i) (ht : s.heap.IsTuple l items) (hx : items[i]? = some x)
    (hQ : ∀ h', h'.IsTupleIter I l (i + 1) → Heap.SameBut I s.heap h' → Q x { s with heap := h' }) : wpAny (model p w) A (Builtin.SmallTypes.nextOf (.ref I)) Q E s := by
  obtain ⟨o, ho, hc, hd⟩ := id hit
  obtain ⟨ol, hol, _, nl, hdl⟩ := ht
  unfold Builtin.SmallTypes.nextOf
  refine wpAny_bind (wpAny_callSpecial?_slot (name := Str.ofString "__next__") hit.typeIs PySem.F.slot_tuple_iterator_next
    (wpAny_call_entry PySem.F.slot_tuple_iterator_next hit.typeIs PySem.F.entry_tuple_iterator_next ?_ (PySem.F.args_tuple_iterator_next_1 _)))
  show wpAny _ _ (field (.ref I) 0 >>= _) _ _ s
  refine wpAny_bind (wpAny_field ho hd (x := .ref l) rfl ?_)
  show wpAny _ _ (if (Value.ref l == Value.none) = true then _ else _) _ _ s
  rw [if_neg (show ¬ ((Value.ref l == Value.none) = true) from Bool.false_ne_true)]
  show wpAny _ _ (field (.ref I) 1 >>= _) _ _ s
  refine wpAny_bind (wpAny_field ho hd (x := .int i 0) rfl ?_)
  show wpAny _ _ (seqItems? (.ref l) >>= _) _ _ s
  refine wpAny_bind (wpAny_seqItems hol hdl ?_)
  simp only [Int.toNat_natCast, hx]
  refine wpAny_bind (wpAny_setField ho hd (by simp) (wpAny_pure ⟨x, rfl, wpAny_pure (hQ _ ?_ (Heap.SameBut.update ..))⟩))
  exact ⟨_, Heap.get?_update_self _ ho (Obj.isFreed_of_fields (Obj.data_mapFields hd _)), (Obj.cls_mapFields ..).trans hc, by
    rw [Obj.data_mapFields hd]; simp [rawInt]⟩
theorem nextOf_tup_end {s : Shared} {E : Value → Shared → Prop} (hh : A.handled = none) (hit : s.heap.IsTupleIter I l i) (ht : s.heap.IsTuple l items) (hx : items[i]? = none)
    (hE : ∀ h' e, Heap.ExtBut I s.heap h' → (∃ o, h'.get? e = some o ∧ o.cls = .type "StopIteration") → E (.ref e) { s with heap := h' }) : wpAny (model p w) A (Builtin.SmallTypes.nextOf (.ref I)) Q E s := by
  obtain ⟨o, ho, hc, hd⟩ := id hit
  obtain ⟨ol, hol, _, nl, hdl⟩ := ht
  unfold Builtin.SmallTypes.nextOf
  refine wpAny_bind (wpAny_callSpecial?_slot (name := Str.ofString "__next__") hit.typeIs PySem.F.slot_tuple_iterator_next
    (wpAny_call_entry PySem.F.slot_tuple_iterator_next hit.typeIs PySem.F.entry_tuple_iterator_next ?_ (PySem.F.args_tuple_iterator_next_1 _)))
  show wpAny _ _ (field (.ref I) 0 >>= _) _ _ s
  refine wpAny_bind (wpAny_field ho hd (x := .ref l) rfl ?_)
  show wpAny _ _ (if (Value.ref l == Value.none) = true then _ else _) _ _ s
  rw [if_neg (show ¬ ((Value.ref l == Value.none) = true) from Bool.false_ne_true)]
  show wpAny _ _ (field (.ref I) 1 >>= _) _ _ s
  refine wpAny_bind (wpAny_field ho hd (x := .int i 0) rfl ?_)
  show wpAny _ _ (seqItems? (.ref l) >>= _) _ _ s
  refine wpAny_bind (wpAny_seqItems hol hdl ?_)
  simp only [Int.toNat_natCast, hx]
  refine wpAny_bind (wpAny_rule (wpAny_bind (wpAny_setField ho hd (by simp) ?_)))
  show wpAny _ _ (newExc (.type "StopIteration") [] >>= _) _ _ _
  refine wpAny_bind ?_
  simp only [newExc, newTuple]
  refine wpAny_bind (wpAny_newObj_type ?_ (by size_fits))
  refine wpAny_bind (m := firstArgMember _ _) (wpAny_of_eq (a := Value.none) (by first | rfl | (simp only [firstArgMember]; rfl)) ?_)
  refine wpAny_newObj_type ?_ (by size_fits)
  simp only [raiseNew]
  refine wpAny_bind (wpAny_handled ?_)
  first | rw [show A.in1.handled = none from hh] | rw [hh]
  refine wpAny_bind (wpAny_pure (wpAny_throw ?_))
  exact hE _ _ (((Heap.SameBut.update ..).extBut.push _).push _) ⟨_, Heap.get?_push_size _ rfl, rfl⟩
theorem drawsT (hh : A.handled = none) (hne : l ≠ I) : Draws p w A I [I, l] items.size (fun i v => items[i]? = some v) (fun i h => h.IsTupleIter I l i ∧ h.IsTuple l items) where
  live := fun _ _ st => let ⟨o, ho, _⟩ := st.1; ⟨o, ho⟩
  frame := fun _ _ _ st hk => ⟨let ⟨o, ho, r⟩ := st.1; ⟨o, hk I (by simp) o ho, r⟩, let ⟨o, ho, r⟩ := st.2; ⟨o, hk l (by simp) o ho, r⟩⟩
  item := fun i s Q E hi st hQ => nextOf_tup st.1 st.2 (x := items[i]) (by simp [hi]) fun h' hit' hs' => hQ _ h' s.toks (by simp [hi]) ⟨hit', let ⟨o, ho, r⟩ := st.2; ⟨o, (hs'.2 l hne).trans ho, r⟩⟩ hs'
  done := fun s Q E st hE => nextOf_tup_end hh st.1 st.2 (by simp) hE
/-- an enumerate that stands ahead of its i-th item; that has just handed out T -/
noncomputable def EnK (I : Addr) (i : Int) : Kd := fun o => ∃ old, o = { cls := .type "enumerate", dict := none, data := .fields #[.none, .bool false, .ref I, rawInt i, .none, old], slots := #[] }
noncomputable def EnO (I : Addr) (i : Int) (x : Value) (T : Addr) : Kd := fun o => o = { cls := .type "enumerate", dict := none, data := .fields #[rawInt T, .bool false, .ref I, rawInt i, .none, x], slots := #[] }
theorem St.ext2 {e I : Addr} {k1 k2 : Kd} (S : St c outer D h0 L m ((e, k1) :: (I, k2) :: led) h) (hk : ∀ b o, b ≠ e → b ≠ I → h.get? b = some o → h'.get? b = some o) (he : ∃ o, h'.get? e = some o) (hI : ∃ o, h'.get? I = some o) : Ext c [e, I] (L :: fsOf outer) h h' := by
  have he' : e ∉ L :: fsOf outer := fun q => by
    rcases List.mem_cons.mp q with z | z
    · exact S.nL (z ▸ List.mem_cons_self ..)
    · exact (S.nF _ z).2 (List.mem_cons_self ..)
  have hI' : I ∉ L :: fsOf outer := fun q => by
    rcases List.mem_cons.mp q with z | z
    · exact S.nL (z ▸ List.mem_cons_of_mem _ (List.mem_cons_self ..))
    · exact (S.nF _ z).2 (List.mem_cons_of_mem _ (List.mem_cons_self ..))
  refine fun b o eb => ?_
  by_cases q : b = e
  · subst q
    obtain ⟨o', e'⟩ := he
    refine ⟨o', e', fun l n => ?_, fun z => absurd (List.mem_cons_self ..) z, fun z => absurd z he'⟩
    rcases S.hi _ (List.mem_cons_self ..) with y | y
    · exact absurd y l
    · exact absurd y n
  by_cases q2 : b = I
  · subst q2
    obtain ⟨o', e'⟩ := hI
    refine ⟨o', e', fun l n => ?_, fun z => absurd (List.mem_cons_of_mem _ (List.mem_cons_self ..)) z, fun z => absurd z hI'⟩
    rcases S.hi _ (List.mem_cons_of_mem _ (List.mem_cons_self ..)) with y | y
    · exact absurd y l
    · exact absurd y n
  · exact ⟨o, hk b o q q2 eb, fun _ _ => rfl, fun _ _ => rfl, fun _ => rfl⟩
theorem call_enumT {xs : List Value} (S : St c outer D h0 L m led h) (ha : At h a (Tup xs))
    (K : ∀ e I h', h0.get? e = none → h0.get? I = none → St c outer D h0 L m ((e, EnK I 0) :: (I, ItT a 0) :: led) h' → Q (.ref e) (Mk s h' t)) : wpAny (model p w) A (call (.type "enumerate") [.ref a]) Q E (Mk s h t) := by
  obtain ⟨⟨oc, dct, dt, sl⟩, hl, hc, n, hd⟩ := ha
  cases hc
  cases hd
  have S1 := S.push { cls := .type "tuple_iterator", data := .fields #[.ref a, .int 0 0] } (ItT a 0) ⟨rfl, rfl⟩
  have S2 := S1.push { cls := .type "enumerate", data := .fields #[.none, .bool false, .ref h.objs.size, rawInt 0, .none, .none] } (EnK h.objs.size 0) ⟨_, rfl⟩
  refine callType_new PySem.F.called_enumerate (by decide) (PySem.F.typeCall_enumerate_1 _) (PySem.F.newCall_enumerate_1 _) (fun obj => PySem.F.args_object_init_2 obj _) PySem.F.entry_enumerate_new
    (meets_enumT a xs.toArray n dct sl) ⟨hl, ?_⟩
  exact ⟨⟨_, Heap.get?_push_size _ rfl, rfl⟩, K _ _ _ (S1.old (new_size _)) (S.old (new_size _)) S2⟩
theorem iter_enum {S0 : Int} (S : St c outer D h0 L m ((e, EnK I S0) :: led) h) (K : Q (.ref e) (Mk s h t)) : wpAny (model p w) A (pyIter (.ref e)) Q E (Mk s h t) := by
  obtain ⟨o, he, old, rfl⟩ := S.head
  exact wpAny_pyIter_enum (s := Mk s h t) he K
theorem next_enum {xs : List Value} {QO : Option Value → Shared → Prop} (S : St c outer D h0 L m ((e, EnK I i) :: (I, ItT a i) :: led) h) (ha : At h a (Tup xs)) (hh : A.handled = none) (hx : xs[i]? = some x)
    (K : ∀ T tk h' t', h0.get? T = none → St c outer D h0 L m ((T, Tup [.int i tk, x]) :: (e, EnO I ((i : Int) + 1) x T) :: (I, ItT a (i + 1)) :: led) h' → QO (some (.ref T)) (Mk s h' t')) : wpAny (model p w) A (pyNext (.ref e)) QO E (Mk s h t) := by
  obtain ⟨o, he, old, rfl⟩ := S.head
  have nd := S.nd
  simp only [List.map_cons, List.nodup_cons, List.mem_cons, not_or] at nd
  obtain ⟨⟨n1, n2⟩, n3, n4⟩ := nd
  have hI := S.second
  have aI : a ≠ I := fun q => by
    obtain ⟨o1, e1, c1, _⟩ := ha; obtain ⟨o2, e2, c2, _⟩ := hI
    rw [q, e2] at e1; cases e1; rw [c2] at c1; exact it_no c1
  have ae : a ≠ e := fun q => by
    obtain ⟨o1, e1, c1, _⟩ := ha
    rw [q, he] at e1; cases e1; exact it_no c1
  refine wpAny_pyNext_enum_itemD (s := Mk s h t) (drawsT (A := A.in1) (items := xs.toArray) hh aI) he ⟨hI.itT, ha.tupl⟩ (by simpa using (List.getElem?_eq_some_iff.mp hx).1) n1 (by simp [n1, ae.symm]) fun y h' tk hy ho hst ht hz hk => ?_
  obtain rfl : x = y := by simpa [hx] using hy
  have R : Ret c (L :: fsOf outer) h [(e, EnO I ((i : Int) + 1) x h.objs.size), (I, ItT a (i + 1))] [(h.objs.size, Tup [.int i tk, x])] h' := by
    refine ⟨S.ext2 (fun b o b1 b2 eb => hk b o b1 b2 eb) ⟨_, ho⟩ (let ⟨o, e1, _⟩ := hst.1; ⟨o, e1⟩), fun q hq => ?_, fun q hq => ?_, by simp⟩
    · rcases List.mem_cons.mp hq with rfl | hq
      · exact ⟨_, ho, rfl⟩
      · rw [List.mem_singleton.mp hq]; obtain ⟨o, e1, c1, d1⟩ := hst.1; exact ⟨o, e1, c1, d1⟩
    · rw [List.mem_singleton.mp hq]; exact ⟨⟨_, ht, rfl, _, rfl⟩, new_size h⟩
  exact K _ tk h' _ (S.old (new_size h)) (S.ret (pre := [(e, EnK I i), (I, ItT a i)]) R rfl)
theorem go_enum {elts : List Expr} {kk : Nat} {pos : Pos} {QU : Unit → Shared → Prop} (S : St c outer D h0 L m ((e, EnO I (i : Int) x T) :: led) h) (K : ∀ h', St c outer D h0 L m ((e, EnK I (i : Int)) :: led) h' → QU () (Mk s h' t)) :
    wpAny (model p w) A (letOwnedTupleGo (.Tuple elts kk pos) (.ref e) (.ref T)) QU E (Mk s h t) := by
  obtain ⟨o, he, rfl⟩ := S.head
  exact wpAny_letOwnedTupleGo_enum (s := Mk s h t) he fun h' he' sb => K h' (S.upd sb ⟨_, he', _, rfl⟩)
end


-- F34
/-! expressions that give a new list -/
structure EvL (c : Ct) (outer : List Env) (D : List Addr) (h0 : Heap) (L : Addr) (m : Str → Option Value) (led : Led) (A : Around) (env : Env) (e : Expr) (PL : List Value → Prop) : Prop where
  run : ∀ {Q : Value → Shared → Prop} {E : Value → Shared → Prop} {s : Shared} {h : Heap} {t : Nat}, St c outer D h0 L m led h → (∀ F ys h' t', PL ys → h0.get? F = none → St c outer D h0 L m ((F, LN ys) :: led) h' → Q (.ref F) (Mk s h' t')) → wpAny (model pw c.w) A (eval e env) Q E (Mk s h t)
/-- a slice's part -/
structure Pt (c : Ct) (outer : List Env) (D : List Addr) (h0 : Heap) (L : Addr) (m : Str → Option Value) (led : Led) (A : Around) (env : Env) (e : Option Expr) (i : Option Int) : Prop where
  run : ∀ {Q : Value → Shared → Prop} {E : Value → Shared → Prop} {s : Shared} {h : Heap} {t : Nat}, St c outer D h0 L m led h → (∀ v h' t', IsPart v i → St c outer D h0 L m led h' → Q v (Mk s h' t')) → wpAny (model pw c.w) A (evalPart e env) Q E (Mk s h t)
section
variable {P P1 P2 : Value → Prop} {PL PL1 PL2 : List Value → Prop} {x : Str} {pos np : Pos} {e e1 e2 : Expr} {es : List Expr} {k : Int} {v w1 : Value} {l b : Addr} {xs ys ws : List Value}
theorem EvL.mono (H : EvL c outer D h0 L m led A env e PL1) (hh : ∀ ys, PL1 ys → PL ys) : EvL c outer D h0 L m led A env e PL := .mk fun S K => H.run S fun F ys h' t' p => K F ys h' t' (hh ys p)
theorem l_disp (H : Evs c outer D h0 L m led A env es PL) (hz : ∀ vs, PL vs → vs.length ≤ 100) : EvL c outer D h0 L m led A env (.List es pos) PL :=
  .mk fun S K => x_lstQ (H.run S fun vs h' t' p S => mk_listN S (hz vs p) fun F h f0 S _ => K F vs h _ p f0 S)
theorem pt_none : Pt c outer D h0 L m led A env none none := .mk fun S K => wpAny_pure (K _ _ _ .none S)
theorem pt_some (H : Ev c outer D h0 L m led A env e (vI k)) : Pt c outer D h0 L m led A env (some e) (some k) := .mk fun S K => H.run S fun v h' t' ⟨u, q⟩ S => K _ _ _ (q ▸ .int k u) S
theorem l_slice {lo hi st : Option Expr} {ilo ihi ist : Option Int} (H : Ev c outer D h0 L m led A env e (· = .ref l)) (H1 : Pt c outer D h0 L m led A env lo ilo) (H2 : Pt c outer D h0 L m led A env hi ihi) (H3 : Pt c outer D h0 L m led A env st ist) (n0 : ist ≠ some 0)
    (ha : ∀ h, St c outer D h0 L m led h → At h l (Lst xs)) (hz : xs.length ≤ 1000000) {ops : Addr → List Value}
    (hs : ∀ sl, subscripted (.Slice lo hi st np) false (.ref l) (.ref sl) = operate (ops sl) (getItem (.ref l) (.ref sl)) := by intro _; with_unfolding_all rfl) (hg : ∀ r, letTemporaryGo e (.ref l) r = pure () := by intro _; with_unfolding_all rfl) :
    EvL c outer D h0 L m led A env (.Subscript e (.Slice lo hi st np) pos) (· = (slicePick xs.toArray ilo ihi ist).toList) :=
  .mk fun S K => Subscript_ (H.run S fun v1 h1 t1 q1 S => by
    subst q1
    refine wpAny_Slice (H1.run S fun va h2 t2 pa S => H2.run S fun vb h3 t3 pb S => H3.run S fun vc h4 t4 pc S => ?_)
    have hl := (ha _ S).list
    refine subscriptTail_ops (Heap.IsList.typeIs (s := Mk _ (h4.push { cls := .type "slice", data := .fields #[va, vb, vc] }) t4) (hl.push _)) list_getitem_lookup
      (wpAny_getItem_list_slice (s := Mk _ (h4.push { cls := .type "slice", data := .fields #[va, vb, vc] }) t4) (hl.push _) (Heap.IsSliceOf.new ..) pa pb pc n0 ?_ (by rw [List.size_toArray, sizeLine_eq]; (first | lia | omega))) (hs _) hg
    have S1 := S.keep (h' := h4.push { cls := .type "slice", data := .fields #[va, vb, vc] }) fun b o e => Heap.get?_push_of_some _ e
    exact K _ _ _ _ rfl (S1.old (new_size _)) (S1.push _ _ ⟨rfl, rfl, _, rfl⟩))
theorem add_LN (S : St c outer D h0 L m led h) (ha : At h a (Lst xs)) (hb : At h b (Lst ys)) (hz : xs.length + ys.length ≤ 1000000)
    (K : ∀ F h', h0.get? F = none → St c outer D h0 L m ((F, LN (xs ++ ys)) :: led) h' → Q (.ref F) (Mk s h' t)) : wpAny (model p w) A (binaryOp .Add (.ref a) (.ref b)) Q E (Mk s h t) := by
  obtain ⟨⟨cls, dd, data, sl⟩, ho, hc, n, hd⟩ := ha
  obtain ⟨⟨cls2, dd2, data2, sl2⟩, ho2, hc2, n2, hd2⟩ := hb
  simp only at hc hd hc2 hd2
  subst hc hd hc2 hd2
  have e : xs.toArray ++ ys.toArray = (xs ++ ys).toArray := by simp
  refine concat_meets (s := Mk s h t) ⟨_, ho, rfl⟩ ⟨_, ho2, rfl⟩ noFill_list_add seq_list_add PySem.F.slot_list_add PySem.F.entry_list_add (PySem.F.args_list_add_2 _ _) (list_addW a b xs.toArray ys.toArray n n2 dd dd2 sl sl2 (by rw [sizeLine_eq]; simpa using (by (first | lia | omega)))) ⟨ho, ho2, ?_⟩
  rw [e]
  exact K _ _ (S.old (new_size h)) (S.push _ _ ⟨rfl, rfl, _, rfl⟩)
/-- a new list and one that stands; two new ones -/
theorem l_catN (H1 : EvL c outer D h0 L m led A env e1 PL1) (H2 : ∀ F ys, Ev c outer D h0 L m ((F, LN ys) :: led) A env e2 (· = .ref b)) (ha : ∀ h, St c outer D h0 L m led h → At h b (Lst xs)) (hz : ∀ ys, PL1 ys → ys.length + xs.length ≤ 1000000) :
    EvL c outer D h0 L m led A env (.BinOp e1 .Add e2 pos) (fun zs => ∃ ys, zs = ys ++ xs ∧ PL1 ys) :=
  .mk fun S K => wpAny_BinOp (H1.run S fun F ys h1 t1 p1 f0 S => (H2 F ys).run S fun v2 h2 t2 q S => by
    subst q
    exact add_LN S S.head.ln (ha _ (S.sublist (List.sublist_cons_self ..))) (hz ys p1) fun G h3 g0 S => K G _ h3 _ ⟨ys, rfl, p1⟩ g0 (S.sublist (.cons_cons _ (.cons _ (List.Sublist.refl _)))))
theorem l_cat (H1 : EvL c outer D h0 L m led A env e1 PL1) (H2 : ∀ F ys, EvL c outer D h0 L m ((F, LN ys) :: led) A env e2 PL2) (hz : ∀ ys zs, PL1 ys → PL2 zs → ys.length + zs.length ≤ 1000000) :
    EvL c outer D h0 L m led A env (.BinOp e1 .Add e2 pos) (fun zs => ∃ ys ws, zs = ys ++ ws ∧ PL1 ys ∧ PL2 ws) :=
  .mk fun S K => wpAny_BinOp (H1.run S fun F ys h1 t1 p1 f0 S => (H2 F ys).run S fun G ws h2 t2 p2 g0 S =>
    add_LN S S.second.ln S.head.ln (hz ys ws p1 p2) fun G h3 g0 S => K G _ h3 _ ⟨ys, ws, rfl, p1, p2⟩ g0 (S.sublist (.cons_cons _ (.cons _ (.cons _ (List.Sublist.refl _))))))
/-- a name that holds a list, then a new list -/
theorem l_catL (H1 : Ev c outer D h0 L m led A env e1 (· = .ref b)) (H2 : EvL c outer D h0 L m led A env e2 PL2) (ha : ∀ h, St c outer D h0 L m led h → At h b (Lst xs)) (hz : ∀ ys, PL2 ys → xs.length + ys.length ≤ 1000000) :
    EvL c outer D h0 L m led A env (.BinOp e1 .Add e2 pos) (fun zs => ∃ ys, zs = xs ++ ys ∧ PL2 ys) :=
  .mk fun S K => wpAny_BinOp (H1.run S fun v1 h1 t1 q S => H2.run S fun G ws h2 t2 p2 g0 S => by
    subst q
    exact add_LN S (ha _ (S.sublist (List.sublist_cons_self ..))) S.head.ln (hz ws p2) fun G h3 g0 S => K G _ h3 _ ⟨ws, rfl, p2⟩ g0 (S.sublist (.cons_cons _ (.cons _ (List.Sublist.refl _)))))
theorem e_idx (H1 : Ev c outer D h0 L m led A env e1 (· = .ref l)) (H2 : Ev c outer D h0 L m led A env e2 (vI k)) (ha : ∀ h, St c outer D h0 L m led h → At h l (Lst xs)) (k0 : 0 ≤ k) (k1 : k < 2 ^ 63) (hx : xs[k.toNat]? = some v)
    (hs : ∀ u, subscripted e2 false (.ref l) (.int k u) = operate [.ref l, .int k u] (getItem (.ref l) (.int k u)) := by intro _; with_unfolding_all rfl) : Ev c outer D h0 L m led A env (.Subscript e1 e2 pos) (· = v) :=
  .mk fun S K => Subscript_ (H1.run S fun v1 h1 t1 q1 S => H2.run S fun v2 h2 t2 ⟨u, q2⟩ S => by subst q1 q2; exact i_lstT (ha _ S) k0 k1 hx (K _ _ _ rfl S) (hs u))
/-- bytes([..]) -/
theorem e_bytes {ns : List Int} (H0 : Ev c outer D h0 L m led A env (.Name x np) (· = .type "bytes")) (H1 : EvL c outer D h0 L m led A env e (fun ys => IntsAre ys ns)) (hr : ∀ k ∈ ns, 0 ≤ k ∧ k < 256) (hn : ns.length ≤ 1000000) (hh : A.handled = none)
    (he : starEach [e] env = (false, eval e env) :: starEach [] env := by with_unfolding_all rfl) : Ev c outer D h0 L m led A env (.Call (.Name x np) [e] [] pos) (vB ns) :=
  .mk fun S K => x_call (H0.run S fun fv h1 t1 q S => by
    subst q
    exact x_cwT (x_arg (H1.run S fun F ys h2 t2 hi f0 S => x_argN (k_make S S.head.ln hh hi hr hn fun h3 b u t3 S _ hb => K _ _ _ ⟨b, u, rfl, hb⟩ (S.sublist (List.sublist_cons_self ..)))) he) he rfl)
end


-- F35
theorem octs_mod : ∀ (j : Nat) (a b : Int), octs j (a * 256 ^ j + b) = octs j b
  | 0, _, _ => rfl
  | j + 1, a, b => by
    rw [octs, octs, Int.pow_succ, ← Int.mul_assoc, Int.add_comm, Int.add_mul_ediv_right _ _ (by decide), Int.add_mul_emod_self_right, Int.add_comm, octs_mod j]
theorem octs_head {k v : Int} {n : Nat} (k0 : 0 ≤ k) (hk : k < 64 * 256 ^ n) (v0 : 0 ≤ v) (v3 : v ≤ 3) :
    octs (n + 1) (v * (64 * 256 ^ n) + k) = (k / 256 ^ n + 64 * v) :: octs n k ∧ octs (n + 1) k = (k / 256 ^ n) :: octs n k ∧ 0 ≤ k / 256 ^ n ∧ k / 256 ^ n < 64 := by
  have p : (0 : Int) < 256 ^ n := Int.pow_pos (by decide)
  have e2 : k / 256 ^ n < 64 := Int.ediv_lt_of_lt_mul p hk
  have e3 : 0 ≤ k / 256 ^ n := Int.ediv_nonneg k0 (by (first | lia | omega))
  have e1 : (v * (64 * 256 ^ n) + k) / 256 ^ n = k / 256 ^ n + 64 * v := by
    rw [← Int.mul_assoc, Int.mul_comm v 64, Int.add_comm, Int.add_mul_ediv_right _ _ (by (first | lia | omega))]
  refine ⟨?_, ?_, e3, e2⟩
  · rw [octs_front, e1, Int.emod_eq_of_lt (by (first | lia | omega)) (by (first | lia | omega)), ← Int.mul_assoc, octs_mod]
  · rw [octs_front, Int.emod_eq_of_lt e3 (by (first | lia | omega))]
theorem octs_ok : ∀ (j : Nat) (k : Int), ∀ x ∈ octs j k, 0 ≤ x ∧ x < 256
  | 0, _, x, h => by simp [octs] at h
  | j + 1, k, x, h => by
    rw [octs] at h
    rcases List.mem_append.mp h with h | h
    · exact octs_ok j _ x h
    · rw [List.mem_singleton.mp h]; (first | lia | omega)
noncomputable def vbits (i : Nat) : Nat := [6, 14, 30, 62].getD i 0
/-- the octets as the law writes them -/
theorem vint_law {k : Int} (k0 : 0 ≤ k) {i : Nat} (hi : i < 4) (h1 : k < 2 ^ vbits i) (h2 : i = 0 ∨ (i = 1 ∧ 64 ≤ k) ∨ (i = 2 ∧ 16384 ≤ k) ∨ (i = 3 ∧ 1073741824 ≤ k)) :
    ∃ d r, octs (2 ^ i) k = d :: r ∧ vint k = (d + 64 * i) :: r ∧ 0 ≤ d ∧ d < 64 := by
  have fin : ∀ (n : Nat) (v : Int), 2 ^ i = n + 1 → vsz k = n + 1 → vix k = v → v = i → k < 64 * 256 ^ n → (2 : Int) ^ (8 * ((n : Int) + 1) - 2).toNat = 64 * 256 ^ n → ∃ d r, octs (2 ^ i) k = d :: r ∧ vint k = (d + 64 * i) :: r ∧ 0 ≤ d ∧ d < 64 := fun n v e1 e2 e3 e4 hk e5 => by
    obtain ⟨a1, a2, a3, a4⟩ := octs_head (n := n) (v := v) k0 hk (by (first | lia | omega)) (by (first | lia | omega))
    refine ⟨_, _, by rw [e1]; exact a2, ?_, a3, a4⟩
    unfold vint
    rw [e2, e3, e5, show ((n : Int) + 1).toNat = n + 1 by (first | lia | omega), a1, e4]
  rcases h2 with rfl | ⟨rfl, h⟩ | ⟨rfl, h⟩ | ⟨rfl, h⟩
  · have h1 : k < 64 := h1
    exact fin 0 0 rfl (by unfold vsz; rw [if_pos h1]; rfl) (by unfold vix; rw [if_pos h1]) rfl (by (first | lia | omega)) (by decide)
  · have h1 : k < 16384 := h1
    exact fin 1 1 rfl (by unfold vsz; rw [if_neg (by (first | lia | omega)), if_pos h1]; rfl) (by unfold vix; rw [if_neg (by (first | lia | omega)), if_pos h1]) rfl (by (first | lia | omega)) (by decide)
  · have h1 : k < 1073741824 := h1
    exact fin 3 2 rfl (by unfold vsz; rw [if_neg (by (first | lia | omega)), if_neg (by (first | lia | omega)), if_pos h1]; rfl) (by unfold vix; rw [if_neg (by (first | lia | omega)), if_neg (by (first | lia | omega)), if_pos h1]) rfl (by (first | lia | omega)) (by decide)
  · have h1 : k < 4611686018427387904 := h1
    exact fin 7 3 rfl (by unfold vsz; rw [if_neg (by (first | lia | omega)), if_neg (by (first | lia | omega)), if_neg (by (first | lia | omega))]; rfl) (by unfold vix; rw [if_neg (by (first | lia | omega)), if_neg (by (first | lia | omega)), if_neg (by (first | lia | omega))]) rfl (by (first | lia | omega)) (by decide)
theorem ia_get {vs : List Value} {ns : List Int} (x : IntsAre vs ns) : ∀ {i : Nat} {k : Int}, ns[i]? = some k → ∃ t, vs[i]? = some (.int k t) := by
  induction x with
  | nil => intro i k h; simp at h
  | cons n t _ ih =>
    intro i k h
    cases i with
    | zero => cases h; exact ⟨t, rfl⟩
    | succ i => exact ih (by simpa using h)
theorem vb62 : ∀ i < 4, vbits i ≤ 62 := by decide
theorem vb_get : ∀ i < 4, ([6, 14, 30, 62] : List Int)[i]? = some ((vbits i : Nat) : Int) := by decide
theorem pw_small : ∀ i < 4, Builtin.Range.small 0 (2 ^ i) 1 = true := by decide +kernel
theorem pw_range : ∀ i < 4, Builtin.Range.rangeSize 0 (2 ^ i) 1 = 2 ^ i := by decide +kernel
theorem pw8 : ∀ i < 4, 2 ^ i ≤ 8 := by decide
theorem NoFit.next {k : Int} {i : Nat} (hi : i < 4) (hb : NoFit k i) (q : ¬ k < 2 ^ vbits i) : NoFit k (i + 1) := by
  rcases lt4 i hi with rfl | rfl | rfl | rfl
  · exact .inr (.inl ⟨rfl, Int.not_lt.mp q⟩)
  · exact .inr (.inr (.inl ⟨rfl, Int.not_lt.mp q⟩))
  · exact .inr (.inr (.inr (.inl ⟨rfl, Int.not_lt.mp q⟩)))
  · exact .inr (.inr (.inr (.inr ⟨rfl, Int.not_lt.mp q⟩)))
theorem NoFit.four {k : Int} {i : Nat} (hi : i < 4) (hb : NoFit k i) : i = 0 ∨ (i = 1 ∧ 64 ≤ k) ∨ (i = 2 ∧ 16384 ≤ k) ∨ (i = 3 ∧ 1073741824 ≤ k) := by
  rcases hb with h | h | h | h | ⟨h, _⟩
  · exact .inl h
  · exact .inr (.inl h)
  · exact .inr (.inr (.inl h))
  · exact .inr (.inr (.inr h))
  · exact absurd hi (by rw [h]; decide)
set_option maxHeartbeats 4000000 in
theorem spec_law_varint {hB : Heap} {k : Int} {u : Tok} (k0 : 0 ≤ k) (k1 : k < 2 ^ 62) (C : Cx c (n + 1) A outer hB none) (g : G c hB)
    (K : ∀ v h' t', vB (vint k) v → Ret c (fsOf outer) hB [] [] h' → Q v (Mk s h' t')) : wpAny (model pw c.w) A (call (.ref 306) [.int k u]) Q E (Mk s hB t) := by
  refine enterO (binds := [(Str.ofString "number", .int k u)]) C g pre_nil (by rfl) (by rfl) rfl (by rfl) (by decide) (fun L h t m QF EF A' hm hQ hN S C2 => ?_)
  have f1 := (hm (Str.ofString "number")).trans (b := some (Value.int k u)) (by rfl)
  refine x_for ?_
  with_reducible refine x_call ?_
  refine x_blt S (b_enumerate S.g) ?_
  with_reducible refine x_cwT ?_
  with_reducible refine x_arg (x_tupQ (x_arg (i_int (fun _ _ => x_arg (i_int (fun _ _ => x_arg (i_int (fun _ _ => x_arg (i_int (fun _ _ => x_argN ?_))))))))))
  with_reducible refine mk_tupQ S (Nat.le_of_ble_eq_true rfl) (fun T h T0 S _ => ?_)
  with_reducible refine x_argN ?_
  refine call_enumT S S.head (fun e I h e0 I0 S => ?_)
  refine iter_enum S ?_
  obtain ⟨vs, hvs, S⟩ : ∃ vs, IntsAre vs [6, 14, 30, 62] ∧ St c outer [] hB L m [(e, EnK I (0 : Nat)), (I, ItT T 0), (T, Tup vs)] h := ⟨_, .cons _ _ (.cons _ _ (.cons _ _ (.cons _ _ .nil))), S⟩
  refine x_loopO 4 (fun i m led => led = [(e, EnK I (i : Nat)), (I, ItT T i), (T, Tup vs)] ∧ m (Str.ofString "number") = some (.int k u) ∧ NoFit k i) S ⟨rfl, f1, .inl rfl⟩ (fun i m led h t QT EF hi S hJ nx rt => ?_) (fun m led h t EF S hJ => ?_)
  rotate_left
  · exact absurd (hJ.2.2.end k1) id
  obtain ⟨rfl, f1, hb⟩ := hJ
  obtain ⟨bt, ebt⟩ := ia_get hvs (i := i) (k := (vbits i : Nat)) (vb_get i hi)
  refine next_enum S (S.get 2 rfl) C2.hd ebt (fun T2 tk h t T20 S => ?_)
  refine go_enum (i := i + 1) (S.front 1 rfl) (fun h S => ?_)
  refine x_unp S (S.get 1 rfl : At h T2 _) C2.hd (fun h S _ => ?_)
  refine a_name S (fun h t S => ?_)
  refine a_name S (fun h t S => ?_)
  refine a_nil ?_
  have S : St c outer [] hB L _ [(e, EnK I (i + 1 : Nat)), (I, ItT T (i + 1)), (T, Tup vs)] h := S.pick [0, 2, 3]
  obtain ⟨m2, em, S⟩ := S.op
  have f1 : m2 (Str.ofString "number") = some (.int k u) := by rw [em]; ((repeat refine it_ne ?_ (by decide)); first | assumption | exact it_eq | with_unfolding_all rfl)
  have f2 : m2 (Str.ofString "at") = some (.int i tk) := by rw [em]; ((repeat refine it_ne ?_ (by decide)); first | assumption | exact it_eq | with_unfolding_all rfl)
  have f3 : m2 (Str.ofString "bits") = some (.int (vbits i : Nat) bt) := by rw [em]; ((repeat refine it_ne ?_ (by decide)); first | assumption | exact it_eq | with_unfolding_all rfl)
  clear em
  have b62 := vb62 i hi
  refine x_ifE (b_lt (e_locI f1) (e_pow e_int (e_locI f3) ⟨by (first | lia | omega), by (first | lia | omega), by decide⟩)) S (fun h t q S => ?_) (fun h t q S => x_nilN (x_nil (nx _ _ _ _ S ⟨rfl, f1, ?_⟩)))
  rotate_left
  · exact hb.next hi (by simpa using q)
  have q : k < 2 ^ vbits i := by simpa using q
  obtain ⟨d, r, er, ev, d0, d1⟩ := vint_law k0 hi q (hb.four hi)
  have er2 := er
  with_reducible refine x_asgSw [Str.ofString "row", Str.ofString "size"] ?_
  with_reducible refine x_tupQ (x_arg (x_lstQ (x_argN ?_)))
  refine mk_listN S (Nat.zero_le _) (fun F h F0 S _ => ?_)
  with_reducible refine x_arg (wpAny_BinOp (i_int (fun _ _ => x_loc (by assumption) (by ((repeat refine it_ne ?_ (by decide)); first | assumption | exact it_eq | with_unfolding_all rfl)) ?_)))
  with_reducible refine i_pow (by (first | lia | omega)) (by (first | lia | omega)) (by decide) (fun uz t => ?_)
  rw [show ((i : Int)).toNat = i by (first | lia | omega)]
  with_reducible refine x_argN ?_
  with_reducible refine mk_tupQ S (Nat.le_of_ble_eq_true rfl) (fun T3 h T30 S _ => ?_)
  refine x_unpI S S.head C2.hd rfl (fun h S => ?_)
  refine b_name S (fun h t S => ?_)
  refine b_name S (fun h t S => ?_)
  refine assignInOrder_nil ?_
  obtain ⟨m3, em, S⟩ := S.op
  have f1 : m3 (Str.ofString "number") = some (.int k u) := by rw [em]; ((repeat refine it_ne ?_ (by decide)); first | assumption | exact it_eq | with_unfolding_all rfl)
  have f2 : m3 (Str.ofString "at") = some (.int i tk) := by rw [em]; ((repeat refine it_ne ?_ (by decide)); first | assumption | exact it_eq | with_unfolding_all rfl)
  have f4 : m3 (Str.ofString "row") = some (.ref F) := by rw [em]; ((repeat refine it_ne ?_ (by decide)); first | assumption | exact it_eq | with_unfolding_all rfl)
  have f5 : m3 (Str.ofString "size") = some (.int (2 ^ i) uz) := by rw [em]; ((repeat refine it_ne ?_ (by decide)); first | assumption | exact it_eq | with_unfolding_all rfl)
  clear em
  have S : St c outer [] hB L m3 [(F, LN [])] h := S.pick [1]
  refine x_for ?_
  with_reducible refine x_call ?_
  refine x_blt S (b_range S.g) ?_
  with_reducible refine x_cwT ?_
  with_reducible refine x_arg ?_
  refine x_loc S f5 ?_
  with_reducible refine x_argN ?_
  refine call_rng1 S (fun R h t R0 S _ => ?_)
  have p8 := pw8 i hi
  have n2 : (((2 ^ i : Nat) : Int)) = 2 ^ i := by simp
  refine iter_range S S.head (pw_small i hi) (fun J h J0 S _ => ?_)
  rw [pw_range i hi] at S
  have S : St c outer [] hB L m3 [(J, ItR (0 : Nat) (2 ^ i - (0 : Nat)) 1), (F, LN [])] h := (by simpa using S.pick [0, 2])
  refine x_loopO (2 ^ i) (fun j m led => ∃ F vs un, led = [(J, ItR j (2 ^ i - (j : Nat)) 1), (F, LN vs)] ∧ m (Str.ofString "number") = some (.int (k / 256 ^ j) un) ∧ m (Str.ofString "at") = some (.int i tk) ∧ m (Str.ofString "row") = some (.ref F) ∧ IntsAre vs (octs j k)) S
    ⟨F, [], u, rfl, by simpa using f1, f2, f4, .nil⟩ (fun j m led h t QT2 EF2 hj S hJ nx2 rt2 => ?_) (fun m led h t EF2 S hJ => ?_)
  · obtain ⟨F, vs, un, rfl, f1, f2, f4, hvs⟩ := hJ
    refine next_range S (by (first | lia | omega)) (fun h v t S _ => ?_)
    refine x_turn S (fun h t S => ?_)
    obtain ⟨m4, em, S⟩ := S.op
    have f1 : m4 (Str.ofString "number") = some (.int (k / 256 ^ j) un) := by rw [em]; ((repeat refine it_ne ?_ (by decide)); first | assumption | exact it_eq | with_unfolding_all rfl)
    have f2 : m4 (Str.ofString "at") = some (.int i tk) := by rw [em]; ((repeat refine it_ne ?_ (by decide)); first | assumption | exact it_eq | with_unfolding_all rfl)
    have f4 : m4 (Str.ofString "row") = some (.ref F) := by rw [em]; ((repeat refine it_ne ?_ (by decide)); first | assumption | exact it_eq | with_unfolding_all rfl)
    clear em
    have lv : vs.length = j := by rw [hvs.length, octs_length]
    refine x_asg (EvL.run (l_catN (l_disp (es_one (e_mod (e_locI f1) e_int (by decide) (PyProof.noPylong_small (by decide)))) (fun vs ⟨v, e, _⟩ => by rw [e]; exact Nat.le_of_ble_eq_true rfl)) (fun F ys => e_loc f4) (fun h S => S.second.ln) (fun ys ⟨v, e, _⟩ => by rw [e]; simp; (first | lia | omega))) S (fun F2 ys h t hys F20 S => ?_))
    obtain ⟨_, rfl, v1, rfl, u1, rfl⟩ := hys
    refine x_store S (fun h t S => ?_)
    obtain ⟨m5, em, S⟩ := S.op
    have f1 : m5 (Str.ofString "number") = some (.int (k / 256 ^ j) un) := by rw [em]; ((repeat refine it_ne ?_ (by decide)); first | assumption | exact it_eq | with_unfolding_all rfl)
    have f2 : m5 (Str.ofString "at") = some (.int i tk) := by rw [em]; ((repeat refine it_ne ?_ (by decide)); first | assumption | exact it_eq | with_unfolding_all rfl)
    have f4 : m5 (Str.ofString "row") = some (.ref F2) := by rw [em]; ((repeat refine it_ne ?_ (by decide)); first | assumption | exact it_eq | with_unfolding_all rfl)
    clear em
    refine x_asgE (e_div (e_locI f1) e_int (by decide) (PyProof.noPylong_small (by decide))) S (fun v m6 h t hv e6 hm6 S => ?_)
    obtain ⟨un2, rfl⟩ := hv
    have S : St c outer [] hB L m6 [(J, ItR (j + 1 : Nat) (2 ^ i - (j + 1 : Nat)) 1), (F2, LN ([.int (k / 256 ^ j % 256) u1] ++ vs))] h := by
      rw [show ((j + 1 : Nat) : Int) = (j : Int) + 1 by (first | lia | omega), show (2 : Int) ^ i - ((j : Int) + 1) = 2 ^ i - j - 1 by (first | lia | omega)]; exact S.pick [1, 0]
    refine x_nil (nx2 _ _ _ _ S ⟨F2, _, un2, rfl, ?_, (hm6 _ (by decide)).trans f2, (hm6 _ (by decide)).trans f4, ?_⟩)
    · rw [e6, Int.pow_succ, Int.ediv_ediv_of_nonneg (Int.le_of_lt (Int.pow_pos (by decide)))]
    · rw [octs_front]; exact .cons _ _ hvs
  · obtain ⟨F, vs, un, rfl, f1, f2, f4, hvs⟩ := hJ
    refine end_range S J0 (by (first | lia | omega)) C2.hd (fun h S => ?_)
    rw [er2] at hvs
    obtain ⟨v0, vr, rfl⟩ : ∃ v0 vr, vs = v0 :: vr := by cases hvs; exact ⟨_, _, rfl⟩
    obtain ⟨t0, hr, rfl⟩ : ∃ t0, IntsAre vr r ∧ v0 = .int d t0 := by cases hvs; exact ⟨_, by assumption, rfl⟩
    have lr : r.length = 2 ^ i - 1 := by have := congrArg List.length er; rw [octs_length, List.length_cons] at this; (first | lia | omega)
    have i8 := p8
    refine x_retE (e_bytes (ns := vint k) (e_blt fun h g => b_bytes g) (EvL.mono (l_cat (l_disp (es_one (e_add (Ev.mono (e_idx (e_loc f4) e_int (fun h S => S.head.ln) (by decide) (by decide) rfl) fun v e => ⟨t0, e⟩) (e_mul e_int (e_locI f2) (IntMulOk.of_left (by decide +kernel))))) (fun vs ⟨v, e, _⟩ => by rw [e]; exact Nat.le_of_ble_eq_true rfl))
      (fun F ys => l_slice (e_loc f4) (pt_some e_int) pt_none pt_none (by decide) (fun h S => S.second.ln) (by rw [List.length_cons, hr.length]; (first | lia | omega))) (fun ys zs h1 h2 => ?_)) fun zs hz => ?_) ?_ ?_ C2.hd) S fun v h t hb S => rt _ _ (hQ _ _ (K v h t hb (S.bare.done rfl)))
    · obtain ⟨v, rfl, _⟩ := h1
      rw [h2, kms_pick_eq]
      simp [kms_pick, kms_lo, kms_hi, hr.length]; (first | lia | omega)
    · obtain ⟨ys, ws, rfl, ⟨v, rfl, u1, rfl⟩, rfl⟩ := hz
      rw [ev, kms_pick_eq]
      have : kms_pick (Value.int d t0 :: vr) (some 1) none = vr := by simp [kms_pick, kms_lo, kms_hi]
      rw [this]
      exact .cons _ _ hr
    · intro x hx
      rw [ev] at hx
      rcases List.mem_cons.mp hx with rfl | hx
      · (first | lia | omega)
      · exact octs_ok (2 ^ i) k x (er2 ▸ List.mem_cons_of_mem _ hx)
    · rw [ev, List.length_cons]; (first | lia | omega)


-- F36
section
variable {x : Str} {np pos : Pos} {e e1 : Expr} {k : Int} {l : List Int} {h1 : Heap}
theorem e_lvarint (H : Ev c outer D h0 L m led A (envY name scope L a cd cY) e (vI k)) (k0 : 0 ≤ k) (k1 : k < 2 ^ 62) (C : Cx c (n + 1) A (envY name scope L a cd cY :: outer) h1 none)
    (hk : scope.kind = .function := by with_unfolding_all rfl) (hl : (envY name scope L a cd cY).kindOf (Str.ofString "_law_varint") = some .globalImplicit := by with_unfolding_all rfl)
    (he : starEach [e] (envY name scope L a cd cY) = (false, eval e (envY name scope L a cd cY)) :: starEach [] (envY name scope L a cd cY) := by with_unfolding_all rfl) :
    Ev c outer D h0 L m led A (envY name scope L a cd cY) (.Call (.Name (Str.ofString "_law_varint") np) [e] [] pos) (vB (vint k)) :=
  e_call (e_glob (fun h g => g_law_varint g) hk hl) (es_one H he) (fun vs ⟨v, q, u, q1⟩ => .mk fun S K => by subst q q1; exact spec_law_varint (n := n) k0 k1 (S.cx C rfl hk) S.g fun v h t hb R => K _ _ _ hb (S.ret0 R)) (he := he)
theorem spec_law_pair {hB : Heap} {k : Int} {l : List Int} {b : Array UInt8} {u w : Tok} (k0 : 0 ≤ k) (k1 : k < 2 ^ 62) (hb : KBw.bInts b = l) (hz : l.length ≤ 1000000) (C : Cx c (n + 2) A outer hB none) (g : G c hB)
    (K : ∀ v h' t', vB (rowB k l) v → Ret c (fsOf outer) hB [] [] h' → Q v (Mk s h' t')) : wpAny (model pw c.w) A (call (.ref 313) [.int k u, .bytes b w]) Q E (Mk s hB t) := by
  refine enterO (binds := [(Str.ofString "number", .int k u), (Str.ofString "value", .bytes b w)]) C g pre_nil (by rfl) (by rfl) rfl (by rfl) (by decide) (fun L h t m QF EF A' hm hQ hN S C2 => ?_)
  have f1 := (hm (Str.ofString "number")).trans (b := some (Value.int k u)) (by rfl)
  have f2 := (hm (Str.ofString "value")).trans (b := some (Value.bytes b w)) (by rfl)
  have l1 := vint_len k
  have l2 := vint_len l.length
  refine x_retE (e_addB (e_addB (e_lvarint (e_locI f1) k0 k1 C2) (e_lvarint (e_len (e_blt fun h g => b_len g) (e_locB f2 ⟨b, w, rfl, hb⟩) (by (first | lia | omega))) (by (first | lia | omega)) (by (first | lia | omega)) C2) (by (first | lia | omega))) (e_locB f2 ⟨b, w, rfl, hb⟩) (by rw [List.length_append]; (first | lia | omega))) S fun v h t p S => hQ _ _ (K v h t p (S.bare.done rfl))
theorem e_lpair (H1 : Ev c outer D h0 L m led A (envY name scope L a cd cY) e (vI k)) (H2 : Ev c outer D h0 L m led A (envY name scope L a cd cY) e1 (vB l)) (k0 : 0 ≤ k) (k1 : k < 2 ^ 62) (hz : l.length ≤ 1000000) (C : Cx c (n + 2) A (envY name scope L a cd cY :: outer) h1 none)
    (hk : scope.kind = .function := by with_unfolding_all rfl) (hl : (envY name scope L a cd cY).kindOf (Str.ofString "_law_pair") = some .globalImplicit := by with_unfolding_all rfl)
    (he : starEach [e, e1] (envY name scope L a cd cY) = (false, eval e (envY name scope L a cd cY)) :: starEach [e1] (envY name scope L a cd cY) := by with_unfolding_all rfl)
    (he1 : starEach [e1] (envY name scope L a cd cY) = (false, eval e1 (envY name scope L a cd cY)) :: starEach [] (envY name scope L a cd cY) := by with_unfolding_all rfl)
    (hp : (backTo pos (starEach [e1] (envY name scope L a cd cY))).any (·.1) = false := by with_unfolding_all rfl) :
    Ev c outer D h0 L m led A (envY name scope L a cd cY) (.Call (.Name (Str.ofString "_law_pair") np) [e, e1] [] pos) (vB (rowB k l)) :=
  e_call (e_glob (fun h g => g_law_pair g) hk hl) (es_two H1 H2 he he1) (fun vs ⟨v, v1, q, ⟨u, q1⟩, ⟨b, w, q2, hb⟩⟩ => .mk fun S K => by subst q q1 q2; exact spec_law_pair (n := n) k0 k1 hb hz (S.cx C rfl hk) S.g fun v h t hb R => K _ _ _ hb (S.ret0 R)) (he := he) (hplain := hp)
end
/-- what the law draws with: a number below 76924 -/
noncomputable def nx76 (k : Int) : Prop := 0 ≤ k ∧ k < 76924
noncomputable def BxL (box sb : Addr) : Led := [(box, Bx sb), (sb, Sq)]
section
variable {x : Str} {np np2 pos : Pos} {h1 : Heap} {box sb : Addr}
/-- _law_next(box): the ledger's first two are the box -/
theorem e_next (hm : m x = some (.ref box)) (C : Cx c (n + 1) A (envY name scope L a cd cY :: outer) h1 hv)
    (hk : scope.kind = .function := by with_unfolding_all rfl) (hl : (envY name scope L a cd cY).kindOf (Str.ofString "_law_next") = some .globalImplicit := by with_unfolding_all rfl) (hx : (envY name scope L a cd cY).kindOf x = some .local := by with_unfolding_all rfl) (hd : (x == ("__debug__" : Str)) = false := by decide)
    (he : starEach [.Name x np] (envY name scope L a cd cY) = (false, eval (.Name x np) (envY name scope L a cd cY)) :: starEach [] (envY name scope L a cd cY) := by with_unfolding_all rfl) :
    Ev c outer D h0 L m (BxL box sb ++ led) A (envY name scope L a cd cY) (.Call (.Name (Str.ofString "_law_next") np2) [.Name x np] [] pos) (vP nx76) :=
  e_call (e_glob (fun h g => g_law_next g) hk hl) (es_one (e_loc hm hk hx hd) he) (fun vs ⟨v, q, q1⟩ => .mk fun S K => by
    subst q q1
    exact spec_next (n := n) (S.cx C rfl hk) S.g (S.toPre (pre := BxL box sb)) fun r tr h t r0 r1 R => K _ _ _ ⟨r, tr, rfl, r0, r1⟩ (S.ret (pre := BxL box sb) (news := []) R rfl)) (he := he)
end


-- F37
theorem Ev.perm {e : Expr} {P : Value → Prop} (p : led.Perm led') (H : Ev c outer D h0 L m led' A env e P) : Ev c outer D h0 L m led A env e P := .mk fun S K => H.run (S.perm p.symm) fun v h t hp S => K v h t hp (S.perm p)
theorem Ev.under {e : Expr} {P : Value → Prop} {q : Addr × Kd} (H : Ev c outer D h0 L m (led ++ [q]) A env e P) : Ev c outer D h0 L m (q :: led) A env e P := H.perm (by simpa using (List.perm_append_comm (l₁ := [q]) (l₂ := led)))
/-- an item of a list just written -/
theorem e_menu {e1 e2 : Expr} {pos : Pos} {P : Value → Prop} {PL : List Value → Prop} {q : Int → Prop} (H1 : EvL c outer D h0 L m led A env e1 PL) (H2 : ∀ F ys, Ev c outer D h0 L m ((F, LN ys) :: led) A env e2 (vP q))
    (hh : ∀ ys k, PL ys → q k → 0 ≤ k ∧ k < 2 ^ 63 ∧ ∃ v, ys[k.toNat]? = some v ∧ P v)
    (hs : ∀ l k u, subscripted e2 false (.ref l) (.int k u) = operate [.ref l, .int k u] (getItem (.ref l) (.int k u)) := by intro _ _ _; with_unfolding_all rfl) : Ev c outer D h0 L m led A env (.Subscript e1 e2 pos) P :=
  .mk fun S K => Subscript_ (H1.run S fun F ys h1 t1 p1 f0 S => (H2 F ys).run S fun v2 h2 t2 ⟨k, u, e, qk⟩ S => by
    subst e
    obtain ⟨k0, k1, v, hv, pv⟩ := hh ys k p1 qk
    exact i_lstT S.head.ln k0 k1 hv (K v _ _ pv (S.sublist (List.sublist_cons_self ..))) (hs F k u))
noncomputable def sAck : Str := Str.ofString "ack_delay_exponent"
noncomputable def sMad : Str := Str.ofString "max_ack_delay"
noncomputable def sUdp : Str := Str.ofString "max_udp_payload_size"
noncomputable def sAct : Str := Str.ofString "active_connection_id_limit"
/-- a number that may stand under this name -/
noncomputable def NumOk (nm : Str) (k : Int) : Prop := (0 ≤ k ∧ k < 2 ^ 62) ∧ inB nm k bnds = true
noncomputable def least (nm : Str) : Int := if sUdp = nm then 1200 else if sAct = nm then 2 else 0
theorem inB_of {nm : Str} {k : Int} : ∀ {l : List (Str × Int × Int)}, (∀ b ∈ l, b.1 = nm → b.2.1 ≤ k ∧ k ≤ b.2.2) → inB nm k l = true
  | [], _ => rfl
  | (o, a, b) :: r, h => by
    unfold inB
    rw [inB_of (l := r) fun x hx => h x (List.mem_cons_of_mem _ hx), Bool.and_true]
    by_cases q : o = nm
    · obtain ⟨h1, h2⟩ := h _ (List.mem_cons_self ..) q
      simp [h1, h2]
    · simp [q]
theorem numOk_of {nm : Str} {k : Int} (h0 : 0 ≤ k) (h1 : k < 2 ^ 60) (a1 : sAck = nm → k ≤ 20) (a2 : sMad = nm → k ≤ 16383) (a3 : sUdp = nm → 1200 ≤ k) (a4 : sAct = nm → 2 ≤ k) : NumOk nm k := by
  refine ⟨⟨h0, by (first | lia | omega)⟩, inB_of fun b hb e => ?_⟩
  simp only [bnds, List.mem_cons, List.not_mem_nil, or_false] at hb
  rcases hb with rfl | rfl | rfl | rfl | rfl | rfl
  · exact ⟨a3 e, by show k ≤ 4611686018427387903; (first | lia | omega)⟩
  · exact ⟨h0, by show k ≤ 1152921504606846976; (first | lia | omega)⟩
  · exact ⟨h0, by show k ≤ 1152921504606846976; (first | lia | omega)⟩
  · exact ⟨h0, a1 e⟩
  · exact ⟨h0, a2 e⟩
  · exact ⟨a4 e, by show k ≤ 4611686018427387903; (first | lia | omega)⟩
theorem nx_mul {a b : Int} (h : nx76 a) : IntMulOk a b := by
  refine IntMulOk.of_left ?_
  unfold nx76 at h
  unfold Builtin.Int.intBits
  by_cases q : a = 0
  · subst q; decide +kernel
  · have : a.natAbs.log2 < 17 := (Nat.log2_lt (by (first | lia | omega))).mpr (by (first | lia | omega))
    split <;> (first | lia | omega)
theorem np62 {k j : Int} (h0 : 0 < j) (h1 : j < 2 ^ 62) : 0 < j ∧ Builtin.divisionGoesByPylong k j = false := by
  refine ⟨h0, PyProof.noPylong_of_log2 ?_⟩
  have h : j.natAbs.log2 < 62 := (Nat.log2_lt (by (first | lia | omega))).mpr (by (first | lia | omega))
  (first | lia | omega)
theorem e_modK {e : Expr} {k : Int} {k0 : Nat} {ps pos : Pos} {p1 : Int → Prop} (H : Ev c outer D h0 L m led A env e (vP p1)) (j0 : 0 < k := by decide) (j1 : k < 2 ^ 62 := by decide) :
    Ev c outer D h0 L m led A env (.BinOp e .Mod (.Constant (.int k) k0 ps) pos) (vP fun r => 0 ≤ r ∧ r < k) :=
  e_modP H (Ev.mono e_int (vP.of (p1 := (· = k)) rfl)) (fun a b _ hb => by rw [show b = k from hb]; exact np62 j0 j1) fun a b _ hb => by rw [show b = k from hb]; exact ⟨Int.emod_nonneg a (Int.ne_of_gt j0), Int.emod_lt_of_pos a j0⟩
theorem least_at {nm : Str} {t1 t2 t3 : Tok} : ∃ u, (valueAt [(sUdp, Value.int 1200 t1), (sAct, Value.int 2 t2)] nm).getD (.int 0 t3) = .int (least nm) u := by
  unfold valueAt least
  by_cases q1 : sUdp = nm
  · simp [q1]
  · by_cases q2 : sAct = nm
    · simp [q1, q2]
    · simp [q1, q2]
set_option maxHeartbeats 4000000 in
theorem spec_law_number {hB : Heap} {box sb : Addr} {nm : Str} {u : Tok} (C : Cx c (n + 2) A outer hB none) (g : G c hB) (P : Pre c (fsOf outer) hB (BxL box sb))
    (K : ∀ k u h' t', NumOk nm k → Ret c (fsOf outer) hB (BxL box sb) [] h' → Q (.int k u) (Mk s h' t')) : wpAny (model pw c.w) A (call (.ref 320) [.ref box, .str nm u]) Q E (Mk s hB t) := by
  refine enterO (binds := [(Str.ofString "box", .ref box), (Str.ofString "name", .str nm u)]) C g P (by rfl) (by rfl) rfl (by rfl) (by decide) (fun L h t m QF EF A' hm hQ hN S C2 => ?_)
  have f1 := (hm (Str.ofString "box")).trans (b := some (Value.ref box)) (by rfl)
  have f2 := (hm (Str.ofString "name")).trans (b := some (Value.str nm u)) (by rfl)
  have S : St c outer [box, sb] hB L m (BxL box sb ++ []) h := S
  have out : ∀ {m : Str → Option Value} v h t, vP (NumOk nm) v → St c outer [box, sb] hB L m (BxL box sb ++ []) h → QF (.ret v) (Mk s h t) := fun v h t ⟨k, u, e, hk⟩ S => by subst e; exact hQ _ _ (K k u h t hk (S.done (post := BxL box sb) (news := []) rfl))
  refine x_ifE (b_eqS (e_locS f2) e_str) S (fun h t q S => ?_) (fun h t q1 S => x_nilN ?_)
  · refine x_retE (e_modP (p3 := NumOk nm) (e_next f1 C2) (Ev.mono e_int (vP.of (p1 := (· = 21)) rfl)) (fun a b ha hb => np62 (by (first | lia | omega)) (by (first | lia | omega))) fun a b ha hb => ?_) S out
    obtain rfl : nm = sAck := beq_iff_eq.mp q.symm
    subst hb
    exact numOk_of (by (first | lia | omega)) (by (first | lia | omega)) (fun _ => by (first | lia | omega)) (fun h => absurd h (by decide +kernel)) (fun h => absurd h (by decide +kernel)) (fun h => absurd h (by decide +kernel))
  refine x_ifE (b_eqS (e_locS f2) e_str) S (fun h t q S => ?_) (fun h t q2 S => x_nilN ?_)
  · refine x_retE (e_modP (p3 := NumOk nm) (e_next f1 C2) (Ev.mono (e_pow e_int e_int (by decide)) (vP.of (p1 := (· = 16384)) (by decide))) (fun a b ha hb => np62 (by (first | lia | omega)) (by (first | lia | omega))) fun a b ha hb => ?_) S out
    obtain rfl : nm = sMad := beq_iff_eq.mp q.symm
    subst hb
    exact numOk_of (by (first | lia | omega)) (by (first | lia | omega)) (fun h => absurd h (by decide +kernel)) (fun _ => by (first | lia | omega)) (fun h => absurd h (by decide +kernel)) (fun h => absurd h (by decide +kernel))
  have n1 : sAck ≠ nm := fun e => by subst e; exact absurd q1 (by decide +kernel)
  have n2 : sMad ≠ nm := fun e => by subst e; exact absurd q2 (by decide +kernel)
  refine x_asgE (P := vP (fun w => w = 5 ∨ w = 200 ∨ w = 2 ^ 20 ∨ w = 2 ^ 59)) (e_menu (q := fun k => 0 ≤ k ∧ k < 4) (l_disp (es_cons e_int (es_cons e_int (es_two (e_pow e_int e_int (by decide)) (e_pow e_int e_int (by decide))))) (fun vs hv => ?_))
    (fun F ys => Ev.under (e_modK (e_next f1 C2))) (fun ys k hv hk => ?_)) S (fun v m2 h t hw e2 hm2 S => ?_)
  · obtain ⟨_, _, rfl, _, _, _, rfl, _, _, _, rfl, _⟩ := hv
    exact Nat.le_of_ble_eq_true rfl
  · obtain ⟨v1, _, rfl, ⟨u1, rfl⟩, v2, _, rfl, ⟨u2, rfl⟩, v3, v4, rfl, ⟨u3, rfl⟩, ⟨u4, rfl⟩⟩ := hv
    refine ⟨hk.1, by (first | lia | omega), ?_⟩
    have : k = 0 ∨ k = 1 ∨ k = 2 ∨ k = 3 := ilt4 hk.1 hk.2
    rcases this with rfl | rfl | rfl | rfl
    · exact ⟨_, rfl, _, _, rfl, .inl rfl⟩
    · exact ⟨_, rfl, _, _, rfl, .inr (.inl rfl)⟩
    · exact ⟨_, rfl, _, _, rfl, .inr (.inr (.inl rfl))⟩
    · exact ⟨_, rfl, _, _, rfl, .inr (.inr (.inr rfl))⟩
  with_reducible refine x_asg ?_
  with_reducible refine x_callA ?_
  with_reducible refine x_dictS S (fun d h d0 ds S _ => ?_)
  with_reducible refine x_pair ?_
  with_reducible refine i_str (fun _ _ => ?_)
  with_reducible refine i_int (fun a1 _ => ?_)
  with_reducible refine x_pair ?_
  with_reducible refine i_str (fun _ _ => ?_)
  with_reducible refine i_int (fun a2 _ => ?_)
  with_reducible refine x_pairN ?_
  with_reducible refine mk_dictS S (by with_unfolding_all rfl) (by with_unfolding_all exact (show [sUdp, sAct].Nodup by decide +kernel)) (fun h t S => ?_)
  have S : St c outer [box, sb] hB L m2 ((d, Dct c [(sUdp, .int 1200 a1), (sAct, .int 2 a2)]) :: (BxL box sb ++ [])) h := S
  refine m_dict S.head PySem.F.slot_dict_get PySem.F.type_dict_get ?_
  with_reducible refine x_cwB1 ?_
  with_reducible refine x_arg ?_
  refine x_loc S ((hm2 _ (by decide)).trans f2) ?_
  with_reducible refine x_arg ?_
  with_reducible refine i_int (fun _ _ => ?_)
  with_reducible refine x_argN ?_
  refine d_get2 S.head ds (fun t => ?_)
  obtain ⟨ul, el⟩ := least_at (nm := nm)
  rw [el]
  have S : St c outer [box, sb] hB L m2 (BxL box sb ++ []) h := S.drop 1
  refine x_store S (fun h t S => ?_)
  obtain ⟨m3, em, S⟩ := S.op
  have g1 : m3 (Str.ofString "box") = some (.ref box) := by rw [em]; exact (if_neg (by decide)).trans ((hm2 _ (by decide)).trans f1)
  have g2 : m3 (Str.ofString "least") = some (.int (least nm) ul) := by rw [em]; exact if_pos rfl
  have g3 : m3 (Str.ofString "wide") = some v := by rw [em]; exact (if_neg (by decide)).trans e2
  clear em
  refine x_retE (e_addP (p3 := NumOk nm) (Ev.mono (e_locI g2) (vP.of (p1 := (· = least nm)) rfl)) (e_modP (p3 := fun k => 0 ≤ k ∧ k < 2 ^ 59) (e_mulP (p3 := fun _ => True) (e_next g1 C2) (e_next g1 C2) (fun a b ha hb => nx_mul ha) fun _ _ _ _ => trivial) (Ev.mono (e_loc g3) fun v e => e ▸ hw) (fun a b ha hb => np62 (by (first | lia | omega)) (by (first | lia | omega))) (fun a b _ hb => by constructor <;> first | (exact Int.emod_nonneg _ (by (first | lia | omega))) | (have := Int.emod_lt_of_pos a (show 0 < b by (first | lia | omega)); (first | lia | omega)))) fun a b ha hb => ?_) S out
  subst ha
  have l0 : 0 ≤ least nm ∧ least nm ≤ 1200 := by unfold least; split <;> (try split) <;> (first | lia | omega)
  refine numOk_of (by (first | lia | omega)) (by (first | lia | omega)) (fun h => absurd h n1) (fun h => absurd h n2) (fun h => ?_) (fun h => ?_)
  · have : least nm = 1200 := by unfold least; rw [if_pos h]
    (first | lia | omega)
  · have : least nm = 2 := by unfold least; rw [if_neg (fun e => absurd (h.trans e.symm) (by decide +kernel)), if_pos h]
    (first | lia | omega)


-- F38
noncomputable def dueL : List (Str × Int) := [(Str.ofString "max_idle_timeout", 0), (Str.ofString "max_udp_payload_size", 65527), (Str.ofString "initial_max_data", 0), (Str.ofString "ack_delay_exponent", 3), (Str.ofString "initial_max_stream_data_bidi_local", 0), (Str.ofString "initial_max_stream_data_bidi_remote", 0), (Str.ofString "max_ack_delay", 25), (Str.ofString "initial_max_stream_data_uni", 0), (Str.ofString "initial_max_streams_bidi", 0), (Str.ofString "initial_max_streams_uni", 0), (Str.ofString "active_connection_id_limit", 2)]
theorem valueAt_mem {kvs : List (Str × Value)} (hn : (kvs.map (·.1)).Nodup) : ∀ {i : Nat} {k : Str} {v : Value}, kvs[i]? = some (k, v) → valueAt kvs k = some v := by
  induction kvs with
  | nil => intro i k v h; simp at h
  | cons q kvs ih =>
    intro i k v h
    obtain ⟨n1, n2⟩ := List.nodup_cons.mp hn
    unfold valueAt at ih ⊢
    rw [List.find?_cons]
    cases i with
    | zero => cases h; simp
    | succ i =>
      have h : kvs[i]? = some (k, v) := by simpa using h
      have : q.1 ≠ k := fun e => n1 (by show q.1 ∈ _; rw [e]; exact List.mem_map_of_mem (f := (·.1)) (List.mem_of_getElem? h))
      simp only [this, decide_false]
      exact ih n2 h
theorem NT.len {l : List (Str × Int)} {kvs : List (Str × Value)} (x : NT l kvs) : kvs.length = l.length := by
  induction x with
  | nil => rfl
  | cons _ ih => rw [List.length_cons, List.length_cons, ih]
set_option maxHeartbeats 4000000 in
theorem spec_law_due {hB : Heap} {d : Addr} {w : Value} {kvs : List (Str × Value)} (hd1 : At hB d (Dct c kvs)) (nd : d ∉ fsOf outer) (ns : (d == sysModules) = false) (hz : kvs.length ≤ 100) (hn : (kvs.map (·.1)).Nodup) (C : Cx c (n + 1) A outer hB none) (g : G c hB)
    (K : ∀ e dn h' t', (e == sysModules) = false → NT dueL dn → Ret c (fsOf outer) hB [] [(e, Dct c (merged (dn ++ [(DAM, .bool false), (UNK, w)]) kvs))] h' → Q (.ref e) (Mk s h' t')) :
    wpAny (model pw c.w) A (call (.ref 332) [.ref d, w]) Q E (Mk s hB t) := by
  refine enterO (binds := [(Str.ofString "told", .ref d), (Str.ofString "unknown", w)]) C g pre_nil (by rfl) (by rfl) rfl (by rfl) (by decide) (fun L h t m QF EF A' hm hQ hN S C2 => ?_)
  have f1 := (hm (Str.ofString "told")).trans (b := some (Value.ref d)) (by rfl)
  have f2 := (hm (Str.ofString "unknown")).trans (b := some w) (by rfl)
  obtain ⟨ep, hdE⟩ := hd1.dce
  with_reducible refine x_asg ?_
  with_reducible refine x_dictS S (fun e h e0 es S _ => ?_)
  iterate 11 (with_reducible refine x_pair ?_; with_reducible refine i_str (fun _ _ => ?_); with_reducible refine i_int (fun _ _ => ?_))
  with_reducible refine x_pair ?_
  with_reducible refine i_str (fun _ _ => ?_)
  with_reducible refine i_bool ?_
  with_reducible refine x_pair ?_
  with_reducible refine i_str (fun _ _ => ?_)
  refine x_loc S f2 ?_
  with_reducible refine x_pairN ?_
  with_reducible refine mk_dictS S (by with_unfolding_all rfl) (by with_unfolding_all exact (show (dueL.map (·.1) ++ [DAM, UNK]).Nodup by decide +kernel)) (fun h t S => ?_)
  obtain ⟨dn, hdn, S⟩ : ∃ dn, NT dueL dn ∧ St c outer [] hB L m [(e, Dct c (merged (dn ++ [(DAM, .bool false), (UNK, w)]) (kvs.take 0)))] h := ⟨_, .cons (.cons (.cons (.cons (.cons (.cons (.cons (.cons (.cons (.cons (.cons .nil)))))))))), S⟩
  refine x_store S (fun h t S => ?_)
  obtain ⟨m2, em, S⟩ := S.op
  have f1 : m2 (Str.ofString "told") = some (.ref d) := by rw [em]; exact (if_neg (by decide)).trans f1
  have f3 : m2 (Str.ofString "due") = some (.ref e) := by rw [em]; exact if_pos rfl
  clear em
  have dl : dn.length = 11 := by
    have := hdn.len; simpa [dueL] using this
  refine x_for ?_
  refine x_loc S f1 ?_
  refine iter_dict S (S.base hdE nd) ns (fun I h I0 S => ?_)
  refine x_loopO kvs.length (fun i m led => led = [(I, ItD d kvs.length ep i), (e, Dct c (merged (dn ++ [(DAM, .bool false), (UNK, w)]) (kvs.take i)))] ∧ m (Str.ofString "told") = some (.ref d) ∧ m (Str.ofString "due") = some (.ref e)) S ⟨rfl, f1, f3⟩ (fun i m led h t QT EF hi S hJ nx rt => ?_) (fun m led h t EF S hJ => ?_)
  · obtain ⟨rfl, f1, f3⟩ := hJ
    obtain ⟨⟨k, v⟩, eq⟩ : ∃ q, kvs[i]? = some q := ⟨_, List.getElem?_eq_getElem hi⟩
    refine next_dict S (S.base hdE nd) eq (fun u h S => ?_)
    refine x_turn S (fun h t S => ?_)
    obtain ⟨m3, em, S⟩ := S.op
    have f1 : m3 (Str.ofString "told") = some (.ref d) := by rw [em]; exact (if_neg (by decide)).trans f1
    have f3 : m3 (Str.ofString "due") = some (.ref e) := by rw [em]; exact (if_neg (by decide)).trans f3
    have f4 : m3 (Str.ofString "name") = some (.str k u) := by rw [em]; exact if_pos rfl
    clear em
    with_reducible refine x_asgSub ?_
    refine Ev.run (e_item (e_loc f1) (e_locS f4) (fun h S => S.base hd1 nd) (valueAt_mem hn eq)) S (fun v' h t q S => ?_)
    subst q
    refine x_loc S f3 ?_
    refine x_loc S f4 ?_
    have lm := merged_len (kvs.take i) (dn ++ [(DAM, Value.bool false), (UNK, w)])
    rw [List.length_take, List.length_append, dl] at lm
    refine d_setS (S.front 1 rfl) (by simp at lm; (first | lia | omega)) (fun h t S => x_nil (nx _ _ _ _ (S.front 1 rfl) ⟨?_, f1, f3⟩))
    rw [merged_take_succ _ _ _ _ eq]; rfl
  · obtain ⟨rfl, f1, f3⟩ := hJ
    refine end_dict S I0 (S.base hdE nd) (List.getElem?_eq_none (Nat.le_refl _)) C2.hd (fun h S => ?_)
    rw [List.take_length] at S
    exact x_retE (e_loc f3) S fun v h t q S => by subst q; exact hQ _ _ (K e dn h t es hdn (S.done (post := []) rfl))


-- F39
theorem lk_exc_code : typeLookup (.type "Exception") (Str.ofString "code") = pure none := by rw [typeLookup_type, builtinLookup_eq_fast]; kernel_rfl
theorem ns_quic2 (g : G c h) : ∃ mN, h.Ns 37 mN ∧ mN (Str.ofString "__getattribute__") = none ∧ mN (Str.ofString "__getattr__") = none ∧ mN (Str.ofString "code") = none := by
  have N := ns_at (N := 37) g (by rfl) (by rfl)
  exact ⟨_, N, ns_none_of g.X N (by rfl), ns_none_of g.X N (by rfl), ns_none_of g.X N (by rfl)⟩
section
variable {x d0 : Addr} {ox : Obj} {mA mN : Str → Option Value} {v : Value} {s : Shared}
open Builtin Builtin.ObjectAttr in
theorem code_entry {tk : Tok} {QF : Fin → Shared → Prop} (g : G c h) (hN : h.Ns 37 mN) (n3 : mN (Str.ofString "code") = none) (hx : h.get? x = some ox) (hc : ox.cls = .ref 38) (hd : ox.dict = some d0) (hns : h.Ns1 d0 mA) (hv : mA (Str.ofString "code") = some v) (hdat : ∀ cc, ox.data ≠ .cls cc)
    (K : QF (.done (.ret v)) (Mk s h t)) : wpAny (model p w) A (Builtin.«object.__getattribute__» ⟨[.ref x, .str (Str.ofString "code") tk], []⟩) QF E (Mk s h t) := by
  have hC := cls_quic g
  obtain ⟨hp, gg, dd, tt, os⟩ := s
  show wpAny _ _ _ _ _ ⟨h, gg, dd, t, os⟩
  unfold Builtin.«object.__getattribute__»
  repeat (any_goals (first | assumption | (with_reducible refine wpAny_loadPart_at hx ?_; rw [hc]) | (with_reducible refine wpAny_typeLookup_exc hC hN PySem.F.attrBase_Exception.mro lk_exc_code ?_; rw [n3]) | wp_step))
  split
  · rename_i cc hcd
    exact absurd hcd (hdat cc)
  unfold instanceDict
  repeat (first | (with_reducible refine wpAny_loadPart_at hx ?_; rw [hc]) | with_reducible refine wpAny_loadPart_at hC ?_ | wp_step)
  rw [hd]
  repeat (first | (with_reducible refine wpAny_nsGet hns.ns ?_; rw [hv]) | wp_step)
  exact K
open Builtin Builtin.ObjectAttr in
theorem code_attr {expr : Bool} {Q : Value → Shared → Prop} (g : G c h) (hN : h.Ns 37 mN) (n1 : mN (Str.ofString "__getattribute__") = none) (n2 : mN (Str.ofString "__getattr__") = none) (n3 : mN (Str.ofString "code") = none) (hx : h.get? x = some ox) (hc : ox.cls = .ref 38) (hd : ox.dict = some d0) (hns : h.Ns1 d0 mA) (hv : mA (Str.ofString "code") = some v) (hdat : ∀ cc, ox.data ≠ .cls cc)
    (hh : handedOut v = pure v) (K : Q v (Mk s h (t + 1))) : wpAny (model p w) A (getAttr (.ref x) (Str.ofString "code") expr) Q E (Mk s h t) := by
  have hC := cls_quic g
  have T : OwnTailQ h [.type "Exception", .type "BaseException", .type "object"] [.type "Exception", .type "BaseException", .type "object"] := .base
  have FB := PySem.F.attrBase_Exception
  have f3 := FB.ga.bind (.ref x)
  have hx0 : (expr && onTheHeap (Value.builtin "BaseException.__getattribute__")) = false := by cases expr <;> rfl
  have hx2 : (Value.builtin "BaseException.__getattribute__" == Value.builtin "object.__getattribute__") = false := by decide +kernel
  have hx1 : (onTheHeap (Value.ref 38) && Value.builtin "BaseException.__getattribute__" == Value.builtin "object.__getattribute__") = false := by rw [hx2]; rfl
  obtain ⟨hp, gg, dd, tt, os⟩ := s
  show wpAny _ _ _ _ _ ⟨h, gg, dd, t, os⟩
  unfold getAttr
  repeat (any_goals (first | assumption | (with_reducible refine wpAny_loadPart_at hx ?_; rw [hc]) | (with_reducible refine wpAny_typeLookup_exc hC hN FB.mro FB.ga.lookup ?_; rw [n1]) | (with_reducible refine wpAny_typeLookup_exc hC hN FB.mro FB.noGetattr ?_; rw [n2]) | wp_step))
  refine codeAny_call_builtin FB.ga.plain F.entry_bexc_ga (wpAny_check_ga_own FB hC T hx hc (code_entry (s := ⟨hp, gg, dd, tt, os⟩) g hN n3 hx hc hd hns hv hdat ?_))
  show wpAny _ _ (handedOut v) _ _ _
  rw [hh]
  exact wpAny_pure K
end
section
variable {nm : Str} {mA : Str → Option Value}
/-- an own exception comes to the clause that names its class and takes a name: the suite goes on -/
theorem x_catchAs {C : Addr} {nm0 q : Str} {N : Addr} {bs : List Value} {sn : List Str} {sub : List Value} {ab : Bool} {col : Option Bool} {dd : Option Addr} {k0 k1 k2 k3 k5 : Option Value} {newId : String}
    {k : Option Int} {e : Addr} {tx : Expr} {b₀ : Stmt} {suite : List Stmt} {pos : Pos} {Q : Flow → Shared → Prop} (S : St c outer D h0 L m led h) (hk : scope.kind = .function) (hf : (envY name scope L a cd cY).frame = some L) {h1 : Heap} (Cc : Cx c n A (envY name scope L a cd cY :: outer) h1 hv)
    (hl : (envY name scope L a cd cY).kindOf nm = some .local)
    (dD : ∀ b ∈ D, b ∉ fsOf outer)
    (hC : ∀ g, G c g → g.get? C = some (excClassObj nm0 q C N bs [.type "Exception", .type "BaseException", .type "object"] true sn sub ab col dd k0 k1 k2 k3 k5 newId))
    (X : Fly h C k e .none h') (kp : Kp h (L :: fsOf outer) h h')
    (ht : ∀ h2, St c outer D h0 L m led h2 → ∀ (Q : Value → Shared → Prop) E, Q (.ref C) (Mk s h2 t) → wpAny (model pw c.w) (A.mark (some (.ref e))) (eval tx (envY name scope L a cd cY)) Q E (Mk s h2 t))
    (H : ∀ h2 m2 t2, m2 nm = some (.ref e) → (∀ y, y ≠ nm → m2 y = m y) → St c outer D h0 L m2 led h2 → (∃ oe vs, h2.get? e = some oe ∧ oe.cls = .ref C ∧ oe.data = .fields vs ∧ ∀ j, k = some j → ∃ d mA u, oe.dict = some d ∧ h2.Ns1 d mA ∧ mA (Str.ofString "code") = some (.int j u)) → ∀ EF,
      wpAny (model pw c.w) (A.mark (some (.ref e))) (execs (b₀ :: suite) (envY name scope L a cd cY)) (fun f s' => ∃ h3 t3 m3, s' = Mk s h3 t3 ∧ St c outer D h0 L m3 led h3 ∧ ∀ h4 m4 t4, St c outer D h0 L m4 led h4 → Q f (Mk s h4 t4)) EF (Mk s h2 t2)) :
    wpAny (model pw c.w) A (noteFrame (.ref e) (envY name scope L a cd cY)) (fun _ s₂ => wpAny (model pw c.w) A (setFlight (.ref e) none) (fun _ s₃ => wpAny (model pw c.w) A (handleBy (.ref e) (envY name scope L a cd cY) [.ExceptHandler (some tx) (some nm) (b₀ :: suite) pos]) Q E s₃) E s₂) E (Mk s h' t) := by
  have fs := fs_cons (outer := outer) hf
  have fok := S.fok hf hk
  have fl : ∀ b ∈ fsOf (envY name scope L a cd cY :: outer), h.get? b ≠ none := fun b hb => by
    obtain ⟨_, o, _, _, e, _⟩ := fok.mem b hb
    rw [e]; exact fun q => nomatch q
  refine x_note (c := c) X Cc.fr (fok.kp (fs ▸ kp)) fl (kp.lv (Lv.refl _)) hf fun h2 X2 k2 => ?_
  refine x_fly X2 (.inl (rawInt_ne _)) fun h3 X3 k3 => ?_
  have kp3 : Kp h (L :: fsOf outer) h h3 := (kp.trans (fs ▸ k2)).trans (k3.mono (Lv.refl _) fun b q => nomatch q)
  have S3 := S.kp kp3 dD
  obtain ⟨ge, oe, vs, he, hc, hd, hsz, hctx, htr, hcd⟩ := id X3
  refine wpAny_handleBy_cons (codeAny_handlers_test (ht h3 S3 _ _ ?_)) (by intro q; cases q)
  refine wpAny_excMatches_sub_self (h := h3) (hC h3 S3.g) he hc (by simp) ?_
  refine codeAny_handlers_suite_as ?_
  show wpAny _ _ _ _ _ (Mk s h3 t)
  refine x_fly X3 (.inr rfl) fun h4 X4 k4 => ?_
  have S4 := S.kp (kp3.trans (k4.mono (Lv.refl _) fun b q => nomatch q)) dD
  have hp : ((envY name scope L a cd cY).scope.kind == .class || ((envY name scope L a cd cY).scope.kind == .module && (envY name scope L a cd cY).locals != (envY name scope L a cd cY).globals)) = false := by
    show (scope.kind == .class || (scope.kind == .module && L != mainGlobals)) = false; rw [hk]; rfl
  obtain ⟨ge, oe, vs, he, hc, hd, hsz, hctx, htr, hcd⟩ := X4
  have nL : ∀ b, h.get? b = none → b ≠ L := fun b q z => S.Lnew (z ▸ q)
  refine wpAny_storeName_local hl S4.ns (fun h5 hn hs => ?_) hp
  refine wpAny_mono (H h5 _ _ (if_pos rfl) (fun y ne => if_neg ne) (S4.store hn hs) ⟨oe, vs, (hs.2 _ (nL _ ge)).trans he, hc, hd, fun j hj => ?_⟩ _) (fun f s' q => ?_) (fun _ _ z => z)
  · obtain ⟨d, mA, u, c1, c2, c3, ⟨o1, es, ep, e1, r1⟩, c5⟩ := hcd j hj
    exact ⟨d, mA, u, c1, ⟨o1, es, ep, (hs.2 _ (nL _ c2)).trans e1, r1⟩, c5⟩
  · obtain ⟨h6, t6, m6, rfl, S6, q6⟩ := q
    exact wpAny_nameGoes hl S6.ns hp (fun h7 m7 n7 s7 => q6 h7 m7 _ (S6.store n7 s7))
end

/-- a function object -/
noncomputable def Fno : Kd := fun o => o.cls = .type "function" ∧ ∃ fd, o.data = .func fd
theorem call_fno {pos : Pos} {h : Heap} {f : Addr} {s : Shared} {t : Nat} {Q : Value → Shared → Prop} (hf : At h f Fno) (H : wpAny M A (call (.ref f) []) Q E (Mk s h t)) : wpAny M A (callWith pos (.ref f) [] (backTo pos (starEach [] env)) []) Q E (Mk s h t) := by
  refine callWith_of (P := fun h => At h f Fno) rfl (fun h ⟨⟨o1, o2, o3, o4⟩, e, _, fd, q⟩ => ⟨.frame, .inl rfl, ?_⟩) (evalArgs_nil3 ⟨hf, H⟩)
  cases q
  exact (Looks.ld (part := none) e).andThen .now
/-- what stood before stands yet -/
noncomputable def Old (c : Ct) (Fs : List Addr) (hB h : Heap) : Prop := ∀ a k, At hB a k → a ∉ Fs → At h a k
/-- a call that QuicError 8 ends -/
noncomputable def Refused (c : Ct) (n : Nat) (outer : List Env) (hB : Heap) (f : Addr) : Prop :=
  ∀ {A : Around} {env : Env} {h : Heap} {s : Shared} {t : Nat} {Q : Value → Shared → Prop} {E : Value → Shared → Prop}, (∃ L0, env.frame = some L0 ∧ hB.get? L0 = none) → Cx c n A (env :: outer) h none → G c h → Old c (fsOf outer) hB h →
    (∀ e h' t', Fly h 38 (some 8) e .none h' → Ext c [] (fsOf (env :: outer)) h h' → E (.ref e) (Mk s h' t')) → wpAny (model pw c.w) A (call (.ref f) []) Q E (Mk s h t)
set_option maxHeartbeats 4000000 in
theorem spec_is_refused {f : Addr} (hf : At h f Fno) (nf : f ∉ fsOf outer) (HW : Refused c (n + 1) outer h f) (C : Cx c (n + 3) A outer h none) (g : G c h)
    (K : ∀ h' t', Ret c (fsOf outer) h [] [] h' → Q (.bool true) (Mk s h' t')) :
    wpAny (model pw c.w) A (call (.ref 339) [.ref f]) Q E (Mk s h t) := by
  refine enterO (binds := [(Str.ofString "work", .ref f)]) C g pre_nil (by rfl) (by rfl) rfl (by rfl) (by decide) (fun L h2 t m QF EF A' hm hQ hN S C2 => ?_)
  have f1 := (hm (Str.ofString "work")).trans (b := some (Value.ref f)) (by rfl)
  refine x_try ?_
  refine x_expr ?_
  with_reducible refine x_call ?_
  refine x_loc S f1 ?_
  refine call_fno (S.base hf nf) (HW ⟨L, rfl, S.Lf⟩ (S.cx C2 |>.le (by exact Nat.le_add_right _ 1)) S.g (fun a k ha na => S.base ha na) (fun e h t X x => ?_))
  refine x_catchAs S rfl rfl C2 (by rfl) (fun b q => (nomatch q)) (fun _ g => cls_quic g) X (fly_h rfl x) (fun h2 S _ _ q => x_glob S (g_QuicError S.g) q) (fun h m t hm _ S ⟨oe, vs, he, hc, hd, hk⟩ EF => ?_)
  obtain ⟨d, mA, u, d1, d2, d3⟩ := hk 8 rfl
  obtain ⟨mN, N, n1, n2, n3⟩ := ns_quic2 S.g
  refine x_ret ?_
  refine wpAny_Compare1 (x_attr (x_loc S hm (code_attr S.g N n1 n2 n3 he hc d1 d2 d3 (fun cc q => by rw [hd] at q; cases q) rfl (i_int fun u2 t2 => ?_)))) (by rfl)
  refine PyProof.Rows.eq_int ⟨_, _, _, rfl, S, fun h4 m4 t4 S4 => hQ _ _ (K h4 t4 (S4.done (post := []) rfl))⟩


-- F40
theorem e_lenL {x : Str} {np pos : Pos} {e : Expr} {l : Addr} {xs : List Value} (H0 : Ev c outer D h0 L m led A env (.Name x np) (· = .builtin "len")) (H1 : Ev c outer D h0 L m led A env e (· = .ref l)) (ha : ∀ h, St c outer D h0 L m led h → At h l (Lst xs)) (hz : xs.length ≤ 100000)
    (he : starEach [e] env = (false, eval e env) :: starEach [] env := by with_unfolding_all rfl) : Ev c outer D h0 L m led A env (.Call (.Name x np) [e] [] pos) (vI (xs.length : Nat)) :=
  e_callB H0 (es_one H1 he) (fun vs ⟨v, q, q2⟩ => .mk fun S K => by subst q q2; exact l_len (ha _ S) hz fun u t' => K _ _ _ ⟨u, rfl⟩ S) he
noncomputable def Ints (vs : List Value) : Prop := ∀ v ∈ vs, ∃ i t, v = .int i t
theorem Ints.snoc {vs : List Value} {i : Int} {t : Tok} (x : Ints vs) : Ints (vs ++ [.int i t]) := fun v hv => by
  rcases List.mem_append.mp hv with q | q
  · exact x v q
  · exact ⟨i, t, List.mem_singleton.mp q⟩
theorem Ints.at {vs : List Value} {i : Nat} (x : Ints vs) (hi : i < vs.length) : ∃ k t, vs[i]? = some (.int k t) := by
  obtain ⟨k, t, e⟩ := x vs[i] (List.getElem_mem _)
  exact ⟨k, t, by rw [List.getElem?_eq_getElem hi, e]⟩
theorem Ints.are {vs : List Value} (x : Ints vs) : ∃ ns, IntsAre vs ns := by
  induction vs with
  | nil => exact ⟨_, .nil⟩
  | cons v vs ih =>
    obtain ⟨i, t, rfl⟩ := x v (List.mem_cons_self ..)
    obtain ⟨ns, q⟩ := ih fun v hv => x v (List.mem_cons_of_mem _ hv)
    exact ⟨_, .cons i t q⟩
theorem Ints.of {vs : List Value} {ns : List Int} (x : IntsAre vs ns) : Ints vs ∧ vs.length = ns.length := by
  induction x with
  | nil => exact ⟨fun v hv => (nomatch hv), rfl⟩
  | cons i t _ ih =>
    refine ⟨fun v hv => ?_, by rw [List.length_cons, List.length_cons, ih.2]⟩
    rcases List.mem_cons.mp hv with q | q
    · exact ⟨i, t, q⟩
    · exact ih.1 v q
set_option maxHeartbeats 4000000 in
theorem spec_law_box {hB : Heap} {W : Addr} {ws : List Value} (hW : At hB W (Lst ws)) (nW : W ∉ fsOf outer) (hi : Ints ws) (hz : ws.length ≤ 63) (C : Cx c (n + 1) A outer hB none) (g : G c hB)
    (K : ∀ box sb h' t', Ret c (fsOf outer) hB [] (BxL box sb) h' → Q (.ref box) (Mk s h' t')) :
    wpAny (model pw c.w) A (call (.ref 299) [.ref W]) Q E (Mk s hB t) := by
  refine enterO (binds := [(Str.ofString "script", .ref W)]) C g pre_nil (by rfl) (by rfl) rfl (by rfl) (by decide) (fun L h t m QF EF A' hm hQ hN S C2 => ?_)
  have f1 := (hm (Str.ofString "script")).trans (b := some (Value.ref W)) (by rfl)
  refine x_ret (x_lstQ ?_)
  refine x_arg (Ev.run (e_add (e_mul (e_lenL (e_blt fun h g => b_len g) (e_loc f1) (fun h S => S.base hW nW) (by (first | lia | omega))) e_int (IntMulOk.of_right (by decide))) e_int) S (fun v1 h t q1 S => ?_))
  obtain ⟨u1, rfl⟩ := q1
  refine x_arg ?_
  refine wpAny_BinOp ?_
  refine x_comp (cl := []) (by with_unfolding_all rfl) ?_
  refine EvL.run (l_slice (e_loc f1) pt_none (pt_some e_int) pt_none (fun q => nomatch q) (fun h S => S.base hW nW) (by (first | lia | omega))) S (fun F ys h t hys f0 S => ?_)
  obtain ⟨hyi, hyl⟩ : Ints ys ∧ ys.length ≤ 63 := by
    obtain ⟨ns, hns⟩ := hi.are
    obtain ⟨z1, z2⟩ := Ints.of (kmk_upto hns (show (0 : Int) ≤ 20 by decide))
    rw [List.length_take, ← (Ints.of hns).2] at z2
    rw [hys]
    exact ⟨z1, by (first | lia | omega)⟩
  refine iter_list S S.head.ln (fun I h I0 S _ => ?_)
  refine comp_goU ys.length (fun i zs led => led = [(I, ItL F i), (F, LN ys)] ∧ Ints zs) S ⟨rfl, fun v hv => nomatch hv⟩ (by (first | lia | omega)) (fun h t Q E S H => self_list S H) (fun i zs led h t CC G mC EB hi hl S hJ => ?_) (fun zs led h t CC G mC EB hl cn fn S hJ => ?_)
  · obtain ⟨rfl, hb⟩ := hJ
    obtain ⟨k, kt, hk⟩ := hyi.at hi
    refine next_list (S.front 2 rfl) (S.get 3 rfl : At h F (LN ys)).ln hk (fun h S _ => ?_)
    refine y_name (S.front 1 rfl) (fun h t mC1 e1 _ S => ?_)
    refine wpAny_BinOp (x_call (y_blt S.g (b_abs S.g) (x_cwB (x_arg (y_loc S.head e1 (x_argN (PyProof.Rows.call_abs_int fun u2 t => ?_)))))))
    refine i_int fun u3 t => i_mod (by decide) (fun u4 t => ?_) (PyProof.noPylong_small (by decide))
    exact ⟨_, h, t, _, rfl, S.pick [0, 2, 1, 3], rfl, hb.snoc⟩
  · obtain ⟨rfl, hb⟩ := hJ
    refine end_list (S.front 2 rfl) I0 (S.get 3 rfl : At h F (LN ys)).ln (List.getElem?_eq_none (Nat.le_refl _)) C2.hd (fun h S => ?_)
    refine comp_end cn S (fun h S => ?_)
    refine EvL.run (l_disp (es_one (e_add (e_lenL (e_blt fun h g => b_len g) (e_loc f1) (fun h S => S.base hW nW) (by (first | lia | omega))) e_int)) (fun vs ⟨v, q, _⟩ => by rw [q]; exact Nat.le_of_ble_eq_true rfl)) S (fun F2 vs h t q f2 S => ?_)
    obtain ⟨v, rfl, u2, rfl⟩ := q
    refine add_LN S S.second.ln S.head.ln (by simp; (first | lia | omega)) (fun sb h s0 S => ?_)
    refine x_arg (i_int fun u3 t => x_argN ?_)
    refine mk_listN S (Nat.le_of_ble_eq_true rfl) (fun box h b0 S _ => ?_)
    have S1 := (S.pick [0, 1]).weak (led' := BxL box sb) rfl (fun p hp => ?_)
    · exact hQ _ _ (K box sb h t (S1.done rfl))
    · rcases List.mem_cons.mp hp with rfl | hp
      · obtain ⟨o, e, z1, _, z2⟩ := S.head
        exact ⟨o, e, _, _, _, _, Int.le_refl 0, z1, z2⟩
      · rw [List.mem_singleton.mp hp]
        obtain ⟨o, e, z1, _, z2⟩ := S.second
        exact ⟨o, e, _, by simp, by simp; (first | lia | omega), hb.snoc, z1, z2⟩


-- F41
theorem mul_LN {xs : List Value} {k : Int} {u : Tok} (S : St c outer D h0 L m led h) (ha : At h a (LN xs)) (k0 : 0 ≤ k) (k1 : k ≤ 1000) (hz : xs.length ≤ 1000)
    (K : ∀ F h', h0.get? F = none → St c outer D h0 L m ((F, LN (List.replicate k.toNat xs).flatten) :: led) h' → Q (.ref F) (Mk s h' t)) : wpAny (model p w) A (binaryOp .Mult (.ref a) (.int k u)) Q E (Mk s h t) := by
  obtain ⟨⟨cls, dd, data, sl⟩, ho, hc, hdd, n, hd⟩ := ha
  simp only at hc hd hdd
  subst hc hd hdd
  have hz2 : xs.length * k.toNat ≤ 2 ^ 24 := Nat.le_trans (Nat.mul_le_mul hz (show k.toNat ≤ 1000 by (first | lia | omega))) (by decide)
  refine wpAny_binaryOp_repeat_ref (s := Mk s h t) (T := "list") (U := "int") (by decide) ⟨_, ho, rfl⟩ (fun s' => typeIs_int s' k u) noFill_list_mul F.fills_int_mul F.slot_int_rmul repeat_list F.slot_int_index.lookup
    (call_meets F.slot_int_rmul (typeIs_int _ k u) F.entry_int_rmul (F.args_int_rmul_2 _ _) (lm_int_rmul_list_any k u a xs.toArray n none sl)
      ⟨ho, rfl, ⟨_, ho, rfl⟩, call_meets F.slot_list_mul ⟨_, ho, rfl⟩ F.entry_list_mul (F.args_list_mul_2 _ _)
        (lm_list_mul_any a xs.toArray n none sl k u (by simp [Builtin.List.listFitsIndex]; (first | lia | omega)) (by simp; (first | lia | omega)) (by simp [Builtin.List.listTooLong, sizeLine]; (first | lia | omega)))
        ⟨ho, ?_⟩⟩)
  exact K _ _ (S.old (new_size h)) (S.push _ _ ⟨rfl, rfl, _, by rw [listMul_foldl_if]⟩)
theorem mulB2 {b : Array UInt8} {ks : List Int} {u v : Tok} (hb : KBw.bInts b = ks) (hz : ks.length ≤ 1000) (hn : ks ≠ []) (K : ∀ v t', vB (ks ++ ks) v → Q v (Mk s h t')) : wpAny (model p w) A (binaryOp .Mult (.bytes b u) (.int 2 v)) Q E (Mk s h t) := by
  have hl : b.toList.length = ks.length := by rw [← hb]; simp [KBw.bInts]
  have := bytes_mul_K (prog := p) (w := w) (A := A) (E := E) (s := Mk s h t) (b := b.toList) (d := b.toList ++ b.toList) (n := 2) (t := u) (u := v) (Q := Q) (fun q => by rw [q] at hl; exact hn (List.length_eq_zero_iff.mp hl.symm)) (by decide) (by decide) (by rw [hl]; simp; (first | lia | omega)) (by simp [List.replicate])
    (fun t' k => K _ k ⟨_, t', rfl, by rw [← hb]; simp [KBw.bInts]⟩)
  simpa using this
theorem e_mulB2 {e e2 : Expr} {pos : Pos} {ks : List Int} (H1 : Ev c outer D h0 L m led A env e (vB ks)) (H2 : Ev c outer D h0 L m led A env e2 (vI 2)) (hz : ks.length ≤ 1000) (hn : ks ≠ []) : Ev c outer D h0 L m led A env (.BinOp e .Mult e2 pos) (vB (ks ++ ks)) :=
  e_bin H1 H2 fun v1 v2 ⟨b, u, q1, hb⟩ ⟨w, q2⟩ Q E s h t K => by subst q1 q2; exact mulB2 hb hz hn K
theorem l_mul {e e2 : Expr} {pos : Pos} {PL : List Value → Prop} {k : Int} (H1 : EvL c outer D h0 L m led A env e PL) (H2 : ∀ F ys, Ev c outer D h0 L m ((F, LN ys) :: led) A env e2 (vI k)) (k0 : 0 ≤ k) (k1 : k ≤ 1000) (hz : ∀ ys, PL ys → ys.length ≤ 1000) :
    EvL c outer D h0 L m led A env (.BinOp e .Mult e2 pos) (fun zs => ∃ ys, zs = (List.replicate k.toNat ys).flatten ∧ PL ys) :=
  .mk fun S K => wpAny_BinOp (H1.run S fun F ys h t p f0 S => (H2 F ys).run S fun v h t ⟨u, q⟩ S => by
    subst q
    exact mul_LN S S.head k0 k1 (hz ys p) fun G h g0 S => K G _ h _ ⟨ys, rfl, p⟩ g0 (S.sublist (.cons_cons _ (.cons _ (List.Sublist.refl _)))))
theorem es_nilB : Evs c outer D h0 L m led A env [] (BL []) := .mk fun S K => x_argN (K _ _ _ .nil S)
theorem es_consB {e : Expr} {es : List Expr} {l : List Int} {ls : List (List Int)} (H : Ev c outer D h0 L m led A env e (vB l)) (H2 : Evs c outer D h0 L m led A env es (BL ls)) (he : starEach (e :: es) env = (false, eval e env) :: starEach es env := by with_unfolding_all rfl) :
    Evs c outer D h0 L m led A env (e :: es) (BL (l :: ls)) :=
  .mk fun S K => x_arg (H.run S fun v h t ⟨b, u, q, hb⟩ S => H2.run S fun r h t p2 S => K _ _ _ (q ▸ .cons hb p2) S) he
theorem es_nilI : Evs c outer D h0 L m led A env [] (fun ys => IntsAre ys []) := .mk fun S K => x_argN (K _ _ _ .nil S)
theorem es_consI {e : Expr} {es : List Expr} {k : Int} {ks : List Int} (H : Ev c outer D h0 L m led A env e (vI k)) (H2 : Evs c outer D h0 L m led A env es (fun ys => IntsAre ys ks)) (he : starEach (e :: es) env = (false, eval e env) :: starEach es env := by with_unfolding_all rfl) :
    Evs c outer D h0 L m led A env (e :: es) (fun ys => IntsAre ys (k :: ks)) :=
  .mk fun S K => x_arg (H.run S fun v h t ⟨u, q⟩ S => H2.run S fun r h t p2 S => K _ _ _ (q ▸ .cons k u p2) S) he
theorem x_asgL {x : Str} {p pos : Pos} {e : Expr} {PL : List Value → Prop} {rest : List Stmt} {QF : Flow → Shared → Prop} {h : Heap} (H : EvL c outer D h0 L m led A (envY name scope L a cd cY) e PL) (S : St c outer D h0 L m led h)
    (K : ∀ F ys m' h' t', PL ys → h0.get? F = none → m' x = some (.ref F) → (∀ y, y ≠ x → m' y = m y) → St c outer D h0 L m' ((F, LN ys) :: led) h' → wpAny (model pw c.w) A (execs rest (envY name scope L a cd cY)) QF E (Mk s h' t'))
    (hs : swapsWith e (some (.Name x p)) pos.line (envY name scope L a cd cY) = pure false := by with_unfolding_all rfl)
    (hk : scope.kind = .function := by with_unfolding_all rfl) (hl : (envY name scope L a cd cY).kindOf x = some .local := by with_unfolding_all rfl) :
    wpAny (model pw c.w) A (execs (.Assign [.Name x p] e pos :: rest) (envY name scope L a cd cY)) QF E (Mk s h t) :=
  x_asg (H.run S fun F ys h' t' hp f0 S => x_store S (fun h2 t2 S2 => K F ys _ h2 t2 hp f0 (if_pos rfl) (fun y ne => if_neg ne) S2) hk hl) hs
theorem l_dispB {es : List Expr} {pos : Pos} {ls : List (List Int)} (H : Evs c outer D h0 L m led A env es (BL ls)) (hz : ls.length ≤ 100) : EvL c outer D h0 L m led A env (.List es pos) (BL ls) := l_disp H fun vs b => by rw [b.len]; exact hz
/-- a name's list of octets and a new one -/
theorem l_catB {e1 e2 : Expr} {pos : Pos} {b : Addr} {xs : List Value} {ls ls' : List (List Int)} (H1 : Ev c outer D h0 L m led A env e1 (· = .ref b)) (H2 : EvL c outer D h0 L m led A env e2 (BL ls')) (hb : BL ls xs) (ha : ∀ h, St c outer D h0 L m led h → At h b (LN xs)) (hz : ls.length + ls'.length ≤ 1000000) :
    EvL c outer D h0 L m led A env (.BinOp e1 .Add e2 pos) (BL (ls ++ ls')) :=
  (l_catL H1 H2 (fun h S => (ha h S).ln) fun ys q => by rw [hb.len, q.len]; exact hz).mono fun zs ⟨ys, q, hy⟩ => q ▸ hb.app hy
theorem e_bytesB {x : Str} {np pos bp : Pos} {es : List Expr} {ns : List Int} (H : Evs c outer D h0 L m led A (envY name scope L a cd cY) es (fun ys => IntsAre ys ns)) (hz : ns.length ≤ 100) (hr : ∀ k ∈ ns, 0 ≤ k ∧ k < 256) (hh : A.handled = none)
    (hx : x = Str.ofString "bytes" := by rfl) (hk : scope.kind = .function := by with_unfolding_all rfl) (hl : (envY name scope L a cd cY).kindOf x = some .globalImplicit := by with_unfolding_all rfl)
    (he : starEach [.List es bp] (envY name scope L a cd cY) = (false, eval (.List es bp) (envY name scope L a cd cY)) :: starEach [] (envY name scope L a cd cY) := by with_unfolding_all rfl) :
    Ev c outer D h0 L m led A (envY name scope L a cd cY) (.Call (.Name x np) [.List es bp] [] pos) (vB ns) := by
  subst hx
  exact e_bytes (e_blt (fun h g => b_bytes g) hk hl) (l_disp H fun vs q => by rw [q.length]; exact hz) hr (by (first | lia | omega)) hh he
theorem ints_rep {ys : List Value} {k : Int} (h : IntsAre ys [k]) : ∀ i : Nat, IntsAre (List.replicate i ys).flatten (List.replicate i k) := by
  cases h with
  | cons _ u h =>
    cases h with
    | nil =>
      intro i
      induction i with
      | zero => exact .nil
      | succ i ih => rw [List.replicate_succ, List.replicate_succ, List.flatten_cons]; exact .cons k u ih
theorem l_rep1 {e1 e2 : Expr} {pos pos2 : Pos} {i k : Int} (H1 : Ev c outer D h0 L m led A env e1 (vI k)) (H2 : ∀ F ys, Ev c outer D h0 L m ((F, LN ys) :: led) A env e2 (vI i)) (k0 : 0 ≤ i) (k1 : i ≤ 1000) (he : starEach [e1] env = (false, eval e1 env) :: starEach [] env := by with_unfolding_all rfl) :
    EvL c outer D h0 L m led A env (.BinOp (.List [e1] pos2) .Mult e2 pos) (fun ys => IntsAre ys (List.replicate i.toNat k)) :=
  (l_mul (l_disp (es_consI H1 es_nilI he) (fun vs q => by rw [q.length]; exact Nat.le_of_ble_eq_true rfl)) H2 k0 k1 (fun ys q => by rw [q.length]; exact Nat.le_of_ble_eq_true rfl)).mono fun zs ⟨ys, q, hy⟩ => q ▸ ints_rep hy _
noncomputable def bentL : List (List Int) :=
  [rowB 3 (vint 1199), rowB 8 (vint ((2 : Int) ^ (60 : Int).toNat + 1)), rowB 10 [21]] ++ [rowB 11 (vint ((2 : Int) ^ (14 : Int).toNat)), rowB 14 [1], rowB 12 [120]] ++ [rowB 2 [97], rowB 4 [5, 5], rowB 4 [], rowB 1 [64]] ++ [rowB 15 (List.replicate 21 1)]
    ++ [rowB 13 [115, 104, 111, 114, 116], rowB (31 * 5 + 27) [122] ++ rowB (31 * 5 + 27) [122], [4, 9, 1], [64]]
set_option maxHeartbeats 4000000 in
theorem spec_law_bent {hB : Heap} {box sb : Addr} (C : Cx c (n + 3) A outer hB none) (g : G c hB) (P : Pre c (fsOf outer) hB (BxL box sb))
    (K : ∀ l v h' t', l ∈ bentL → vB l v → Ret c (fsOf outer) hB (BxL box sb) [] h' → Q v (Mk s h' t')) : wpAny (model pw c.w) A (call (.ref 346) [.ref box]) Q E (Mk s hB t) := by
  refine enterO (binds := [(Str.ofString "box", .ref box)]) C g P (by rfl) (by rfl) rfl (by rfl) (by decide) (fun L h t m QF EF A' hm hQ hN S C2 => ?_)
  have f1 := (hm (Str.ofString "box")).trans (b := some (Value.ref box)) (by rfl)
  have S : St c outer [box, sb] hB L m (BxL box sb ++ []) h := S
  have C3 := C2.le (k := n + 2) (by exact Nat.le_refl _)
  have C4 := C2.le (k := n + 1) (by exact Nat.le_add_right _ 1)
  refine x_asgL (l_dispB (es_consB (e_lpair e_int (e_lvarint e_int (by decide) (by decide) C4) (by decide) (by decide) (Nat.le_trans (vint_len _) (by decide)) C3) (es_consB (e_lpair e_int (e_lvarint (e_add (e_pow e_int e_int (by decide)) e_int) (by decide) (by decide) C4) (by decide) (by decide) (Nat.le_trans (vint_len _) (by decide)) C3)
    (es_consB (e_lpair e_int (e_bytesB (es_consI e_int es_nilI) (by decide) (by decide) C2.hd) (by decide) (by decide) (by decide) C3) es_nilB))) (by exact (by decide : 3 ≤ 100))) S (fun F ys m2 h t hb f0 f3 hm2 S => ?_)
  have ok : ∀ {l : List Int}, l.length ≤ 500 → l.length ≤ 1000000 := fun h => by (first | lia | omega)
  refine x_asgL (l_catB (e_loc f3) (l_dispB (es_consB (e_lpair e_int (e_lvarint (e_pow e_int e_int (by decide)) (by decide) (by decide) C4) (by decide) (by decide) (Nat.le_trans (vint_len _) (by decide)) C3) (es_consB (e_lpair e_int (e_bytesB (es_consI e_int es_nilI) (by decide) (by decide) C2.hd) (by decide) (by decide) (by decide) C3)
    (es_consB (e_lpair e_int e_byt (by decide) (by decide) (by decide) C3) es_nilB))) (by exact (by decide : 3 ≤ 100))) hb (fun h S => S.head) (by exact (by decide : 3 + 3 ≤ 1000000))) S (fun F2 ys2 m3 h t hb2 f02 f4 hm3 S => ?_)
  have S : St c outer [box, sb] hB L m3 ((F2, LN ys2) :: (BxL box sb ++ [])) h := S.pick [0, 2, 3]
  refine x_asgL (l_catB (e_loc f4) (l_dispB (es_consB (e_lpair e_int e_byt (by decide) (by decide) (by decide) C3) (es_consB (e_lpair e_int (e_bytesB (es_consI e_int (es_consI e_int es_nilI)) (by decide) (by decide) C2.hd) (by decide) (by decide) (by decide) C3)
    (es_consB (e_lpair e_int e_byt (by decide) (by decide) (by decide) C3) (es_consB (e_lpair e_int (e_bytesB (es_consI e_int es_nilI) (by decide) (by decide) C2.hd) (by decide) (by decide) (by decide) C3) es_nilB)))) (by exact (by decide : 4 ≤ 100))) hb2 (fun h S => S.head) (by exact (by decide : 6 + 4 ≤ 1000000))) S (fun F3 ys3 m4 h t hb3 f03 f5 hm4 S => ?_)
  have S : St c outer [box, sb] hB L m4 ((F3, LN ys3) :: (BxL box sb ++ [])) h := S.pick [0, 2, 3]
  refine x_expr ?_
  with_reducible refine x_callA ?_
  refine x_loc S f5 ?_
  refine m_append S.head ?_
  with_reducible refine x_cwB1 ?_
  with_reducible refine x_arg ?_
  refine Ev.run (e_lpair e_int (e_bytes (e_blt fun h g => b_bytes g) (l_rep1 e_int (fun F ys => e_int) (by decide) (by decide)) (by decide : ∀ k ∈ List.replicate (21 : Int).toNat (1 : Int), 0 ≤ k ∧ k < 256) (by decide) C2.hd) (by decide) (by decide) (by decide) C3) S (fun v h t q S => ?_)
  obtain ⟨b5, u5, rfl, hb5⟩ := q
  with_reducible refine x_argN ?_
  refine k_append S (by rw [hb3.len]; decide) (fun h S => ?_)
  have hb4 := hb3.snoc (u := u5) hb5
  dsimp only
  refine x_asgL (l_catB (e_loc f5) (l_dispB (es_consB (e_lpair e_int e_byt (by decide) (by decide) (by decide) C3) (es_consB (e_mulB2 (e_lpair (e_add (e_mul e_int e_int (IntMulOk.of_right (by decide))) e_int) e_byt (by decide) (by decide) (by decide) C3) e_int (by decide) (by decide))
    (es_consB (e_bytesB (es_consI e_int (es_consI e_int (es_consI e_int es_nilI))) (by decide) (by decide) C2.hd) (es_consB (e_bytesB (es_consI e_int es_nilI) (by decide) (by decide) C2.hd) es_nilB)))) (by exact (by decide : 4 ≤ 100))) hb4 (fun h S => S.head) (by exact (by decide : 11 + 4 ≤ 1000000))) S (fun F4 ys4 m5 h t hb6 f04 f6 hm5 S => ?_)
  have S : St c outer [box, sb] hB L m5 ((F4, LN ys4) :: (BxL box sb ++ [])) h := S.pick [0, 2, 3]
  have fb := (hm5 (Str.ofString "box") (by decide)).trans ((hm4 _ (by decide)).trans ((hm3 _ (by decide)).trans ((hm2 _ (by decide)).trans f1)))
  have l4 : ys4.length = 15 := hb6.len
  refine x_ret (Subscript_ (Ev.run (e_loc f6) S fun v h t q S => ?_))
  subst q
  refine Ev.run (e_modP (p3 := fun k => 0 ≤ k ∧ k < 15) (Ev.under (e_next fb C4)) (Ev.mono (e_lenL (e_blt fun h g => b_len g) (e_loc f6) (fun h S => S.head.ln) (by (first | lia | omega))) (vP.of (p1 := (· = 15)) (by rw [l4]; rfl))) (fun a b ha hb => np62 (by (first | lia | omega)) (by (first | lia | omega))) fun a b ha hb => by subst hb; (first | lia | omega)) S (fun v h t ⟨k, u, q, k0, k1⟩ S => ?_)
  subst q
  obtain ⟨l, hl⟩ : ∃ l, bentL[k.toNat]? = some l := ⟨_, List.getElem?_eq_getElem (show k.toNat < bentL.length by show k.toNat < 15; (first | lia | omega))⟩
  obtain ⟨b, u2, hv, hbl⟩ := hb6.get hl
  have S1 : St c outer [box, sb] hB L m5 (BxL box sb ++ []) h := S.drop 1
  exact i_lstT S.head.ln k0 (by (first | lia | omega)) hv (hQ _ _ (K l _ h t (List.mem_of_getElem? hl) ⟨b, u2, rfl, hbl⟩ (S1.done (post := BxL box sb) (news := []) rfl)))


-- F42
/-! defs with cells -/
noncomputable def Cel (v : Option Value) : Kd := fun o => o.data = .cell v
noncomputable def celL (cm : Str → Option Value) (cx : List (Str × Addr)) : Led := cx.map fun p => (p.2, Cel (cm p.1))
theorem At.cell {v : Option Value} (x : At h a (Cel v)) : h.IsCell a v := let ⟨o, e, d⟩ := x; ⟨o, e, d⟩
theorem cells_ready {cx : List (Str × Addr)} {cm : Str → Option Value} {pre : Led} {s1 : Shared} (x : InCallC (Mk s h t) h.objs.size m cx cm s1) (nd : (cx.map (·.1)).Nodup) (C : Cx c n A outer h hv) (g : G c h) (P : Pre c (fsOf outer) h pre) :
    ∃ h1 t1, s1 = Mk s h1 t1 ∧ h1.Ns h.objs.size m ∧ St c outer (pre.map (·.1)) h h.objs.size m (celL cm cx ++ pre) h1 := by
  obtain ⟨⟨⟨h1, t1, e1⟩, ns, keep, _⟩, cell, apart, above⟩ := x
  subst e1
  have keep : ∀ b o, h.get? b = some o → h1.get? b = some o := keep
  have hx : ∀ p ∈ celL cm cx, ∃ n, (n, p.1) ∈ cx ∧ p.2 = Cel (cm n) := fun p hp => by
    obtain ⟨q, hq, e⟩ := List.mem_map.mp hp
    exact ⟨q.1, by rw [← e]; exact hq, by rw [← e]⟩
  have fresh : ∀ p ∈ celL cm cx, h.get? p.1 = none := fun p hp => by
    obtain ⟨n, hm, _⟩ := hx p hp
    exact Heap.get?_none_of_le (Nat.le_of_lt (above _ _ hm))
  have e1 : (celL cm cx).map (·.1) = cx.map (·.2) := by unfold celL; rw [List.map_map]; rfl
  refine ⟨h1, t1, rfl, ns, ?_⟩
  have g1 : G c h1 := g.ext (D := []) (Fs := []) ((Ext.refl c [] [] h).keep keep)
  refine ⟨g1, (Ext.refl c _ _ h).keep keep, g.n1, ns, new_size h, ?_, fun q => ?_, fun b hb => ⟨C.ok.lv b hb, fun q => ?_⟩, fun p hp => ?_, fun p hp => ?_, fun p hp => ?_, C.ok.of fun b o _ e => ⟨o, keep b o e, rfl⟩⟩
  · rw [List.map_append, List.nodup_append]
    refine ⟨by rw [e1]; exact List.pairwise_map.mpr apart, P.nd, fun b hb b' hb' e => ?_⟩
    subst e
    obtain ⟨p, hp, rfl⟩ := List.mem_map.mp hb
    obtain ⟨q, hq, e⟩ := List.mem_map.mp hb'
    exact (P.at_ q hq).nn (by rw [e]; exact fresh p hp)
  · rw [List.map_append] at q
    rcases List.mem_append.mp q with q | q
    · obtain ⟨p, hp, e⟩ := List.mem_map.mp q
      obtain ⟨n, hm, _⟩ := hx p hp
      exact absurd (above _ _ hm) (by rw [e]; exact Nat.lt_irrefl _)
    · obtain ⟨p, hp, e⟩ := List.mem_map.mp q
      exact absurd (P.at_ p hp).lt (by rw [e]; exact Nat.lt_irrefl _)
  · rw [List.map_append] at q
    rcases List.mem_append.mp q with q | q
    · obtain ⟨p, hp, e⟩ := List.mem_map.mp q
      obtain ⟨o, ho⟩ := C.ok.lv b hb
      exact nn_of ho (by rw [← e]; exact fresh p hp)
    · exact P.nF b hb q
  · rcases List.mem_append.mp hp with hp | hp
    · obtain ⟨n, hm, e⟩ := hx p hp
      obtain ⟨o, ho, hd⟩ := cell n p.1 (lookup_of_mem_nodup nd hm)
      exact ⟨o, ho, by rw [e]; exact hd⟩
    · obtain ⟨o, e, q⟩ := P.at_ p hp
      exact ⟨o, keep _ _ e, q⟩
  · rcases List.mem_append.mp hp with hp | hp
    · exact .inr (fresh p hp)
    · exact .inl (List.mem_map_of_mem hp)
  · rcases List.mem_append.mp hp with hp | hp
    · exact .inl (g.new (fresh p hp))
    · exact P.hi p hp
theorem cx_in {cx : List (Str × Addr)} {f : Addr} {cdv : Value} {qual : Str} {h1 : Heap} (C : Cx c (n + 1) A outer h hv) (hk : scope.kind = .function) (hns : h1.Ns h.objs.size m) (g : G c h) (fo : FrOK c h1 outer) :
    Cx c n (A.deeper (envY qual scope h.objs.size f cdv cx)) (envY qual scope h.objs.size f cdv cx :: outer) h1 hv := by
  refine ⟨C.hd, ?_, ?_, ?_, ?_, ?_, fo⟩
  · show A.depth + 1 + 4 * n < recursionLimit
    have := C.dp; (first | lia | omega)
  · show A.units + 3 + 40 * n < cLine
    have := C.un; (first | lia | omega)
  · show A.frames.map _ = _
    rw [C.fr]; rfl
  · show scope.kind ≠ .module
    rw [hk]; exact fun e => by cases e
  · obtain ⟨o, es, ep, e, d, _⟩ := hns
    exact ⟨h.objs.size, o, es, ep, rfl, g.new (new_size h), e, d⟩
theorem enterX {f : Addr} {args : List Value} {binds : List (Str × Value)} {pre : Led} {nm qual : Str} {params : Arguments} {body : List Stmt} {dV kV doc pm cdv ct oc : Value} {an od : Option Addr} {osl : Array (Option Value)}
    (C : Cx c (n + 1) A outer h hv) (g : G c h) (P : Pre c (fsOf outer) h pre)
    (ho : (hd.heap_1 c.w.params).lookup f = some ⟨oc, od, .func (fnOf nm qual params body scope dV kV doc pm an cdv ct), osl⟩)
    (hcd : codeIn (hd.heap_1 c.w.params) cdv qual = true)
    (hbind : bindArgs (fnOf nm qual params body scope dV kV doc pm an cdv ct) ⟨args, []⟩ = pure binds)
    (hkind : ∀ k, KindsOk scope k binds) (hnd : ((cellsFrom 0 scope.names []).map (·.1)).Nodup)
    (H : ∀ L cx h1 t1 m cm QF EF A', (∀ x, m x = bindL (fun y => scope.names.lookup y) binds (fun _ => none) x) → (∀ x, cm x = bindC (fun y => scope.names.lookup y) binds (fun _ => none) x) → cx.map (·.1) = (cellsFrom 0 scope.names []).map (·.1) →
      (∀ v s', Q v s' → QF (.ret v) s') → (∀ s', Q .none s' → QF .next s') → St c outer (pre.map (·.1)) h L m (celL cm cx ++ pre) h1 → Cx c n A' (envY qual scope L f cdv cx :: outer) h1 hv →
      wpAny (model pw c.w) A' (execs body (envY qual scope L f cdv cx)) QF EF (Mk s h1 t1))
    (hco : scope.isCoroutine = false := by with_unfolding_all rfl) (hgen : scope.isGenerator = false := by with_unfolding_all rfl) (hk : scope.kind = .function := by with_unfolding_all rfl) :
    wpAny (model pw c.w) A (call (.ref f) args) Q E (Mk s h t) := by
  have nm := cellsFrom_names scope.names (h.objs.size + 1) 0 [] [] rfl
  refine wpAny_call (codeAny_call_cells (s := Mk s h t) ?_ (g.X _ _ ho) rfl g.T.nolimit (codeRec_of g.X hcd) rfl hbind rfl (kinds_of (hkind _)) (fun s1 x => ?_) hco hgen hk)
  · have := C.dp; (first | lia | omega)
  · obtain ⟨h1, t1, rfl, ns, S⟩ := cells_ready x (show ((cellsFrom (h.objs.size + 1) scope.names []).map (·.1)).Nodup by rw [nm]; exact hnd) C g P
    exact H _ _ h1 t1 _ _ _ _ _ (fun _ => rfl) (fun _ => rfl) nm (fun _ _ z => z) (fun _ z => z) S (cx_in C hk ns g S.fo)
theorem codeC_call_cells {prog : Program} {R : Result → Shared → Prop} {a : Addr} {o : Obj} {fd : FuncData} {body : List Stmt} {vals : List Value} {binds : List (Str × Value)}
    (hroom : A.depth < recursionLimit) (ho : s.heap.get? a = some o) (hdata : o.data = .func fd) (hlim : s.heap.NoLimit) (hcd : s.heap.CodeRec fd.code fd.qualname)
    (hbody : fd.body = .stmts body) (hbind : bindArgs fd ⟨vals, []⟩ = pure binds) (hclo : fd.closure = [])
    (hkind : ∀ x ∈ binds, fd.scope.names.lookup x.1 = some .local ∨ (fd.scope.names.lookup x.1 = some .cell ∧ ((cellsFrom (s.heap.objs.size + 1) fd.scope.names []).lookup x.1).isSome = true))
    (h : ∀ s₁, InCallC s (callEnvC fd s.heap.objs.size a).locals (bindL (callEnvC fd s.heap.objs.size a).kindOf binds fun _ => none) (callEnvC fd s.heap.objs.size a).cells
        (bindC (callEnvC fd s.heap.objs.size a).kindOf binds fun _ => none) s₁ →
      wpC (model prog w) (A.deeper (callEnvC fd s.heap.objs.size a)) (execs body (callEnvC fd s.heap.objs.size a)) (fun f s' => R (.ok (.ret (match f with | .ret v => v | _ => .none))) s')
        (fun e s' => wpAny (model prog w) (A.deeper (callEnvC fd s.heap.objs.size a)) (leaving (callEnvC fd s.heap.objs.size a) e) (fun _ s'' => R (.error e) s'') (fun e' s'' => R (.error e') s'') s') s₁)
    (hco : fd.scope.isCoroutine = false := by rfl) (hgen : fd.scope.isGenerator = false := by rfl) (hk : fd.scope.kind = .function := by rfl) :
    codeC (model prog w) A (.call (.ref a) ⟨vals, []⟩) R s := by
  refine codeC_of_tree rfl ?_
  show wpC _ A.in1 (callAny (.ref a) _) _ _ s
  simp only [callAny]
  refine wpC_step (wpAny_load ho ?_)
  obtain ⟨c, oc, vs, tq, hc, hoc, hdc, hq⟩ := hcd
  simp only [hdata, callFunction, hco, hgen, hbody, hc]
  refine wpC_step (m := field (.ref c) 1) (wpAny_field hoc hdc hq ?_)
  refine wpC_step (wpAny_pure ?_)
  rw [hbind, hclo]
  refine wpC_step (wpAny_pure ?_)
  refine wpC_step (wpAny_newFunctionEnv_cells hk hkind fun env he s' x => ?_)
  subst he
  refine wpC_step (wpAny_enterFrame (hlim.keeps x.toInCall.keep) hroom ?_)
  refine wpC_pure (And.intro rfl (codeC_func ?_))
  have z := h s' (by unfold callEnvC; rw [hc]; exact x)
  unfold callEnvC at z
  rw [hc] at z
  exact z
theorem enterXC {f : Addr} {args : List Value} {binds : List (Str × Value)} {pre : Led} {nm qual : Str} {params : Arguments} {body : List Stmt} {dV kV doc pm cdv ct oc : Value} {an od : Option Addr} {osl : Array (Option Value)}
    (C : Cx c (n + 1) A outer h hv) (g : G c h) (P : Pre c (fsOf outer) h pre)
    (ho : (hd.heap_1 c.w.params).lookup f = some ⟨oc, od, .func (fnOf nm qual params body scope dV kV doc pm an cdv ct), osl⟩)
    (hcd : codeIn (hd.heap_1 c.w.params) cdv qual = true)
    (hbind : bindArgs (fnOf nm qual params body scope dV kV doc pm an cdv ct) ⟨args, []⟩ = pure binds)
    (hkind : ∀ k, KindsOk scope k binds) (hnd : ((cellsFrom 0 scope.names []).map (·.1)).Nodup)
    (H : ∀ L cx h1 t1 m cm QF EF A', (∀ x, m x = bindL (fun y => scope.names.lookup y) binds (fun _ => none) x) → (∀ x, cm x = bindC (fun y => scope.names.lookup y) binds (fun _ => none) x) → cx.map (·.1) = (cellsFrom 0 scope.names []).map (·.1) →
      (∀ v s', Q v s' → QF (.ret v) s') → (∀ s', Q .none s' → QF .next s') → St c outer (pre.map (·.1)) h L m (celL cm cx ++ pre) h1 → Cx c n A' (envY qual scope L f cdv cx :: outer) h1 hv →
      wpC (model pw c.w) A' (execs body (envY qual scope L f cdv cx)) QF EF (Mk s h1 t1))
    (hco : scope.isCoroutine = false := by with_unfolding_all rfl) (hgen : scope.isGenerator = false := by with_unfolding_all rfl) (hk : scope.kind = .function := by with_unfolding_all rfl) :
    wpC (model pw c.w) A (call (.ref f) args) Q E (Mk s h t) := by
  have nm := cellsFrom_names scope.names (h.objs.size + 1) 0 [] [] rfl
  refine wpC_call (codeC_call_cells (s := Mk s h t) ?_ (g.X _ _ ho) rfl g.T.nolimit (codeRec_of g.X hcd) rfl hbind rfl (kinds_of (hkind _)) (fun s1 x => ?_) hco hgen hk)
  · have := C.dp; (first | lia | omega)
  · obtain ⟨h1, t1, rfl, ns, S⟩ := cells_ready x (show ((cellsFrom (h.objs.size + 1) scope.names []).map (·.1)).Nodup by rw [nm]; exact hnd) C g P
    exact H _ _ h1 t1 _ _ _ _ _ (fun _ => rfl) (fun _ => rfl) nm (fun _ _ z => z) (fun _ z => z) S (cx_in C hk ns g S.fo)
section
variable {x : Str} {pos : Pos} {v : Value} {B : Addr}
theorem x_cell (hc : cY.lookup x = some B) (hv : At h B (Cel (some v))) (H : Q v (Mk s h t)) (hk : scope.kind = .function := by with_unfolding_all rfl) (hl : (envY name scope L a cd cY).kindOf x = some .cell := by with_unfolding_all rfl) (hd : (x == ("__debug__" : Str)) = false := by decide) :
    wpAny M A (eval (.Name x pos) (envY name scope L a cd cY)) Q E (Mk s h t) := wpAny_Name (wpAny_loadName_cell hk hl hc hv.cell H) hd
theorem x_free (hc : cY.lookup x = some B) (hv : At h B (Cel (some v))) (H : Q v (Mk s h t)) (hk : scope.kind = .function := by with_unfolding_all rfl) (hl : (envY name scope L a cd cY).kindOf x = some .free := by with_unfolding_all rfl) (hd : (x == ("__debug__" : Str)) = false := by decide) (hn : (x == ("__classdict__" : Str)) = false := by decide) :
    wpAny M A (eval (.Name x pos) (envY name scope L a cd cY)) Q E (Mk s h t) := wpAny_Name (wpAny_loadName_free hk hl hc hv.cell H hn) hd
theorem e_cell (hc : cY.lookup x = some B) (hv : ∀ h, St c outer D h0 L m led h → At h B (Cel (some v))) (hk : scope.kind = .function := by with_unfolding_all rfl) (hl : (envY name scope L a cd cY).kindOf x = some .cell := by with_unfolding_all rfl) (hd : (x == ("__debug__" : Str)) = false := by decide) :
    Ev c outer D h0 L m led A (envY name scope L a cd cY) (.Name x pos) (· = v) := .mk fun S K => x_cell hc (hv _ S) (K _ _ _ rfl S) hk hl hd
theorem e_free (hc : cY.lookup x = some B) (hv : ∀ h, St c outer D h0 L m led h → At h B (Cel (some v))) (hk : scope.kind = .function := by with_unfolding_all rfl) (hl : (envY name scope L a cd cY).kindOf x = some .free := by with_unfolding_all rfl) (hd : (x == ("__debug__" : Str)) = false := by decide) (hn : (x == ("__classdict__" : Str)) = false := by decide) :
    Ev c outer D h0 L m led A (envY name scope L a cd cY) (.Name x pos) (· = v) := .mk fun S K => x_free hc (hv _ S) (K _ _ _ rfl S) hk hl hd hn
theorem x_storeCell {v0 : Option Value} {QU : Unit → Shared → Prop} (hc : cY.lookup x = some B) (S : St c outer D h0 L m ((B, Cel v0) :: led) h)
    (H : ∀ h', St c outer D h0 L m ((B, Cel (some v)) :: led) h' → QU () (Mk s h' t)) (hk : scope.kind = .function := by with_unfolding_all rfl) (hl : (envY name scope L a cd cY).kindOf x = some .cell := by with_unfolding_all rfl) :
    wpAny M A (storeName (envY name scope L a cd cY) x v) QU E (Mk s h t) :=
  wpAny_storeName_cell hk hl hc S.head.cell fun h' z sb => H h' (S.upd sb (let ⟨o, e, d⟩ := z; ⟨o, e, d⟩))
end


-- F43
section
variable {x y : Str} {np np2 pos : Pos} {e e1 e2 : Expr} {h1 : Heap} {box sb : Addr} {nm : Str} {k : Int}
theorem e_nextW (H : Ev c outer D h0 L m (BxL box sb ++ led) A (envY name scope L a cd cY) e (· = .ref box)) (C : Cx c (n + 1) A (envY name scope L a cd cY :: outer) h1 hv)
    (hk : scope.kind = .function := by with_unfolding_all rfl) (hl : (envY name scope L a cd cY).kindOf (Str.ofString "_law_next") = some .globalImplicit := by with_unfolding_all rfl)
    (he : starEach [e] (envY name scope L a cd cY) = (false, eval e (envY name scope L a cd cY)) :: starEach [] (envY name scope L a cd cY) := by with_unfolding_all rfl) :
    Ev c outer D h0 L m (BxL box sb ++ led) A (envY name scope L a cd cY) (.Call (.Name (Str.ofString "_law_next") np2) [e] [] pos) (vP nx76) :=
  e_call (e_glob (fun h g => g_law_next g) hk hl) (es_one H he) (fun vs ⟨v, q, q1⟩ => .mk fun S K => by
    subst q q1
    exact spec_next (n := n) (S.cx C rfl hk) S.g (S.toPre (pre := BxL box sb)) fun r tr h t r0 r1 R => K _ _ _ ⟨r, tr, rfl, r0, r1⟩ (S.ret (pre := BxL box sb) (news := []) R rfl)) (he := he)
theorem e_lnumber (H : Ev c outer D h0 L m (BxL box sb ++ led) A (envY name scope L a cd cY) e (· = .ref box)) (H1 : Ev c outer D h0 L m (BxL box sb ++ led) A (envY name scope L a cd cY) e1 (vS nm)) (C : Cx c (n + 2) A (envY name scope L a cd cY :: outer) h1 none)
    (hk : scope.kind = .function := by with_unfolding_all rfl) (hl : (envY name scope L a cd cY).kindOf (Str.ofString "_law_number") = some .globalImplicit := by with_unfolding_all rfl)
    (he : starEach [e, e1] (envY name scope L a cd cY) = (false, eval e (envY name scope L a cd cY)) :: starEach [e1] (envY name scope L a cd cY) := by with_unfolding_all rfl)
    (he1 : starEach [e1] (envY name scope L a cd cY) = (false, eval e1 (envY name scope L a cd cY)) :: starEach [] (envY name scope L a cd cY) := by with_unfolding_all rfl)
    (hp : (backTo pos (starEach [e1] (envY name scope L a cd cY))).any (·.1) = false := by with_unfolding_all rfl) :
    Ev c outer D h0 L m (BxL box sb ++ led) A (envY name scope L a cd cY) (.Call (.Name (Str.ofString "_law_number") np2) [e, e1] [] pos) (vP (NumOk nm)) :=
  e_call (e_glob (fun h g => g_law_number g) hk hl) (es_two H H1 he he1) (fun vs ⟨v, v1, q, q1, u, q2⟩ => .mk fun S K => by
    subst q q1 q2
    exact spec_law_number (n := n) (S.cx C rfl hk) S.g (S.toPre (pre := BxL box sb)) fun k u h t hk R => K _ _ _ ⟨k, u, rfl, hk⟩ (S.ret (pre := BxL box sb) (news := []) R rfl)) (he := he) (hplain := hp)
theorem NT.at {l : List (Str × Int)} {kvs : List (Str × Value)} (x : NT l kvs) {k : Str} {j : Int} : fval l k = some j → ∃ u, valueAt kvs k = some (.int j u) := by
  induction x with
  | nil => intro h; cases h
  | @cons n i u r kvs _ ih =>
    intro h
    unfold fval valueAt at *
    rw [List.find?_cons] at h ⊢
    by_cases q : n = k
    · simp only [q, decide_true] at h ⊢; cases h; exact ⟨_, rfl⟩
    · simp only [q, decide_false] at h ⊢; exact ih h
/-- a table's row: _law_numbers()[name] -/
theorem e_tab {fn : Str} {f : Addr} {tb : List (Str × Int)} (hf : ∀ {A : Around} {outer : List Env} {hB : Heap} {n : Nat} {hv : Option Value} {Q : Value → Shared → Prop} {E : Value → Shared → Prop} {s : Shared} {t : Nat}, Cx c (n + 1) A outer hB hv → G c hB →
      (∀ d kvs h' t', (d == sysModules) = false → NT tb kvs → Ret c (fsOf outer) hB [] [(d, Dct c kvs)] h' → Q (.ref d) (Mk s h' t')) → wpAny (model pw c.w) A (call (.ref f) []) Q E (Mk s hB t))
    (hg : ∀ h, G c h → c.mg fn = some (.ref f)) (hkf : keepIn (hd.heap_1 c.w.params) (.ref f) = true) (H : ∀ led, Ev c outer D h0 L m led A (envY name scope L a cd cY) e (vS nm)) (hv : fval tb nm = some k) (C : Cx c (n + 1) A (envY name scope L a cd cY :: outer) h1 hv')
    (hs : ∀ d u, subscripted e false (.ref d) (.str nm u) = operate [.ref d, .str nm u] (getItem (.ref d) (.str nm u)) := by intro _ _; with_unfolding_all rfl)
    (hk : scope.kind = .function := by with_unfolding_all rfl) (hl : (envY name scope L a cd cY).kindOf fn = some .globalImplicit := by with_unfolding_all rfl) (hdb : (fn == ("__debug__" : Str)) = false := by decide) :
    Ev c outer D h0 L m led A (envY name scope L a cd cY) (.Subscript (.Call (.Name fn np) [] [] np2) e pos) (vI k) :=
  .mk fun S K => Subscript_ (x_call (x_glob S (hg _ S.g) (x_cw0 S.g.X hkf (hf (S.cx C rfl hk) S.g fun d kvs h t ds hnt R => by
    have S := S.ret (pre := []) R rfl
    refine (H _).run S fun v h t ⟨u, q⟩ S => ?_
    subst q
    obtain ⟨u2, hv2⟩ := hnt.at hv
    exact tail_any (s := Mk _ h t) S.head.dct.typeIs slot_dict_getitem.lookup (wpAny_getItem_of (s := Mk _ h t) (strIs c.w nm u) S.head.dct.mapOf hv2 (K _ _ _ ⟨_, rfl⟩ (S.drop 1))) (hs d u))) hk hl hdb))
end


-- F44
/-! what the law has drawn -/
noncomputable def numIx : List Nat := [1, 3, 4, 10, 8, 11, 14, 7]
noncomputable def octIx : List Nat := [0, 2, 15, 16]
noncomputable def fourB : List Int := [102, 111, 117, 114]
noncomputable def sixtB : List Int := [115, 105, 120, 116, 101, 101, 110, 32, 111, 99, 116, 101, 116, 115, 46, 46]
noncomputable def OkV : Nat × Val → Prop
  | (i, .num k) => i ∈ numIx ∧ NumOk (pname i) k
  | (i, .flag b) => i = 12 ∧ b = true
  | (i, .oct l) => i ∈ octIx ∧ (i = 2 → l.length = 16) ∧ l.length ≤ 20
  | (i, .addr (l1, i1, l2, i2, l3, l4)) => i = 13 ∧ l1 = fourB ∧ i1 = 4433 ∧ l2 = sixtB ∧ i2 = 258 ∧ (1 ≤ l3.length ∧ l3.length ≤ 20) ∧ l4.length = 16
theorem OkV.lt {q : Nat × Val} (h : OkV q) : q.1 < 17 := by
  obtain ⟨i, x⟩ := q
  cases x with
  | num k => exact (by decide : ∀ j ∈ numIx, j < 17) i h.1
  | flag b => obtain rfl := h.1; exact (by decide : 12 < 17)
  | oct l => exact (by decide : ∀ j ∈ octIx, j < 17) i h.1
  | addr y => obtain ⟨l1, i1, l2, i2, l3, l4⟩ := y; obtain rfl := h.1; exact (by decide : 13 < 17)
theorem pname_inj : ∀ i, i < 17 → ∀ j, j < 17 → pname i = pname j → i = j := by decide +kernel
structure Told (ix : List (Nat × Val)) (kvs : List (Str × Value)) (rs : List Value) (vl : Led) : Prop where
  ok : ∀ q ∈ ix, OkV q
  nd : (ix.map (·.1)).Nodup
  dl : DL (ix.map fun q => (pname q.1, q.2)) kvs vl
  bl : BL (ix.map fun q => rowB q.1 (encV q.2)) rs
theorem Told.nil : Told [] [] [] [] := ⟨fun _ h => (nomatch h), List.nodup_nil, .nil, .nil⟩
theorem Told.add {ix : List (Nat × Val)} {kvs : List (Str × Value)} {rs : List Value} {vl vl' : Led} {i : Nat} {x : Val} {v w : Value} {l : Led} (T : Told ix kvs rs vl) (hok : OkV (i, x)) (hi : i ∉ ix.map (·.1)) (hv : VL x v l) (hl : ∀ p ∈ l, p ∈ vl') (hs : ∀ p ∈ vl, p ∈ vl') (hw : vB (rowB i (encV x)) w) :
    Told (ix ++ [(i, x)]) (stored kvs (pname i) v) (rs ++ [w]) vl' := by
  obtain ⟨b, u, rfl, hb⟩ := hw
  have ih : i < 17 := hok.lt
  have na : ((ix.map fun q => (pname q.1, q.2)).any fun q => q.1 = pname i) = false := by
    rw [List.any_eq_false]
    intro q hq
    obtain ⟨r, hr, rfl⟩ := List.mem_map.mp hq
    intro e
    have e : pname r.1 = pname i := by simpa using e
    exact hi (pname_inj _ (T.ok r hr).lt _ ih e ▸ List.mem_map_of_mem hr)
  refine ⟨fun q hq => ?_, ?_, ?_, ?_⟩
  · rcases List.mem_append.mp hq with q1 | q1
    · exact T.ok q q1
    · rw [List.mem_singleton.mp q1]; exact hok
  · rw [List.map_append, List.nodup_append]
    exact ⟨T.nd, List.nodup_cons.mpr ⟨List.not_mem_nil, List.nodup_nil⟩, fun a ha b hb e => hi (by rw [← show a = i from e.trans (List.mem_singleton.mp hb)]; exact ha)⟩
  · have z := (T.dl.more hs).sto (k := pname i) hv hl
    unfold sto at z
    rw [if_neg (by rw [na]; decide)] at z
    rw [List.map_append]; exact z
  · rw [List.map_append]; exact T.bl.snoc hb
theorem nodup_le : ∀ (n : Nat) (l : List Nat), l.Nodup → (∀ i ∈ l, i < n) → l.length ≤ n
  | 0, [], _, _ => Nat.le_refl _
  | 0, i :: l, _, h => absurd (h i (List.mem_cons_self ..)) (Nat.not_lt_zero _)
  | n + 1, l, nd, h => by
    have z := nodup_le n (l.erase n) (nd.erase n) fun i hi => by
      have h1 := (nd.mem_erase_iff).mp hi
      have := h i h1.2
      have : i ≠ n := h1.1
      (first | lia | omega)
    by_cases q : n ∈ l
    · rw [List.length_erase_of_mem q] at z; (first | lia | omega)
    · rw [List.erase_of_not_mem q] at z; (first | lia | omega)
theorem Told.len {ix : List (Nat × Val)} {kvs : List (Str × Value)} {rs : List Value} {vl : Led} (T : Told ix kvs rs vl) : kvs.length = ix.length ∧ rs.length = ix.length ∧ ix.length ≤ 17 := by
  refine ⟨by rw [← T.dl.len, List.length_map], by rw [T.bl.len, List.length_map], ?_⟩
  have := nodup_le 17 (ix.map (·.1)) T.nd fun i hi => by
    obtain ⟨q, hq, rfl⟩ := List.mem_map.mp hi
    exact (T.ok q hq).lt
  simpa using this
theorem lnum_at {nm : Str} (h : nm ∈ lnums.map (·.1)) : ∃ j ∈ numIx, fval lnums nm = some ((j : Nat) : Int) ∧ pname j = nm := by
  have : ∀ nm ∈ lnums.map (·.1), ∃ j ∈ numIx, fval lnums nm = some ((j : Nat) : Int) ∧ pname j = nm := by decide +kernel
  exact this nm h
theorem loct_at {nm : Str} (h : nm ∈ locts.map (·.1)) : ∃ j ∈ octIx, fval locts nm = some ((j : Nat) : Int) ∧ pname j = nm := by
  have : ∀ nm ∈ locts.map (·.1), ∃ j ∈ octIx, fval locts nm = some ((j : Nat) : Int) ∧ pname j = nm := by decide +kernel
  exact this nm h
theorem valueAt_stored (kvs : List (Str × Value)) (k : Str) (v : Value) : valueAt (stored kvs k v) k = some v := by
  unfold stored
  by_cases q : (kvs.any fun q => q.1 = k) = true
  · rw [if_pos q]
    induction kvs with
    | nil => simp at q
    | cons p r ih =>
      unfold valueAt at ih ⊢
      rw [List.map_cons, List.find?_cons]
      by_cases z : p.1 = k
      · simp [z]
      · simp only [z, if_false, decide_false]
        exact ih (by simpa [z] using q)
  · rw [if_neg q]
    refine valueAt_last ?_
    unfold valueAt
    rw [List.find?_eq_none.mpr (fun p hp e => q (List.any_eq_true.mpr ⟨p, hp, e⟩))]
    rfl
section
variable {x : Str} {np ap pos p p2 : Pos} {e ei : Expr} {P : Value → Prop} {rest : List Stmt} {QF : Flow → Shared → Prop} {R d : Addr} {xs : List Value} {kvs : List (Str × Value)} {k : Str}
/-- x.append(e) -/
theorem x_appE {pl : Sem Bool} (H : Ev c outer D h0 L m led A (envY name scope L a cd cY) e P) (S : St c outer D h0 L m led h) (hx : m x = some (.ref R)) (i : Nat) (hi : led[i]? = some (R, LN xs)) (hz : xs.length ≤ 16777216)
    (K : ∀ v h' t', P v → St c outer D h0 L m ((R, LN (xs ++ [v])) :: led.eraseIdx i) h' → wpAny (model pw c.w) A (execs rest (envY name scope L a cd cY)) QF E (Mk s h' t'))
    (hk : scope.kind = .function := by with_unfolding_all rfl) (hl : (envY name scope L a cd cY).kindOf x = some .local := by with_unfolding_all rfl) (hd : (x == ("__debug__" : Str)) = false := by decide)
    (he : starEach [e] (envY name scope L a cd cY) = (false, eval e (envY name scope L a cd cY)) :: starEach [] (envY name scope L a cd cY) := by with_unfolding_all rfl)
    (ha : eval (.Call (.Attribute (.Name x np) (Str.ofString "append") ap) [e] [] pos) (envY name scope L a cd cY) = (do
      let ov ← eval (.Name x np) (envY name scope L a cd cY)
      standAt ap.atName
      let (f, first) ← holding [ov] (getMethod ov (Str.ofString "append") pl)
      callWith pos f first (backTo pos (starEach [e] (envY name scope L a cd cY))) (backToKw pos (keywordEach [] (envY name scope L a cd cY)))) := by with_unfolding_all rfl)
    (hi2 : interactive (envY name scope L a cd cY) = false := by with_unfolding_all rfl) (hs : swapsWith (.Call (.Attribute (.Name x np) (Str.ofString "append") ap) [e] [] pos) none p.line (envY name scope L a cd cY) = pure false := by with_unfolding_all rfl) :
    wpAny (model pw c.w) A (execs (.Expr (.Call (.Attribute (.Name x np) (Str.ofString "append") ap) [e] [] pos) p :: rest) (envY name scope L a cd cY)) QF E (Mk s h t) :=
  x_expr (x_callA (x_loc S hx (m_append (S.front i hi).head (x_cwB1 (x_arg (H.run S fun v h t q S => x_argN (k_append (S.front i hi) hz fun h S => K v h _ q S)) he) he)) hk hl hd) ha) hi2 hs
/-- x[i] = e -/
theorem x_setE (H : Ev c outer D h0 L m led A (envY name scope L a cd cY) e P) (Hi : Ev c outer D h0 L m led A (envY name scope L a cd cY) ei (vS k)) (S : St c outer D h0 L m led h) (hx : m x = some (.ref d)) (i : Nat) (hi : led[i]? = some (d, Dct c kvs)) (hz : kvs.length ≤ 10000)
    (K : ∀ v h' t', P v → St c outer D h0 L m ((d, Dct c (stored kvs k v)) :: led.eraseIdx i) h' → wpAny (model pw c.w) A (execs rest (envY name scope L a cd cY)) QF E (Mk s h' t'))
    (hk : scope.kind = .function := by with_unfolding_all rfl) (hl : (envY name scope L a cd cY).kindOf x = some .local := by with_unfolding_all rfl) (hd : (x == ("__debug__" : Str)) = false := by decide)
    (hs : swapsWith e (some (.Subscript (.Name x np) ei p)) pos.line (envY name scope L a cd cY) = pure false := by with_unfolding_all rfl) :
    wpAny (model pw c.w) A (execs (.Assign [.Subscript (.Name x np) ei p] e pos :: rest) (envY name scope L a cd cY)) QF E (Mk s h t) :=
  x_asgSub (H.run S fun v h t q S => x_loc S hx (Hi.run S fun vi h t ⟨u, qi⟩ S => by subst qi; exact d_setS (S.front i hi) hz fun h t S => K v h t q S) hk hl hd) hs
end
theorem rng20 {k : Int} (h0 : 0 ≤ k) (h1 : k ≤ 20) : Builtin.Range.small 0 k 1 = true ∧ Builtin.Range.rangeSize 0 k 1 = k := by
  obtain ⟨j, rfl⟩ := Int.eq_ofNat_of_zero_le h0
  exact (by decide +kernel : ∀ j, j < 21 → Builtin.Range.small 0 ((j : Nat) : Int) 1 = true ∧ Builtin.Range.rangeSize 0 ((j : Nat) : Int) 1 = ((j : Nat) : Int)) j (by (first | lia | omega))
theorem y_free {x : Str} {pos : Pos} {v : Value} {CC B : Addr} {cl : List (Str × Addr)} (hc : cl.lookup x = some B) (hv : At h B (Cel (some v))) (H : Q v (Mk s h t))
    (hk : (relabel scope env).kind = .function := by with_unfolding_all rfl) (hl : (compEnvC scope cl CC env).kindOf x = some .free := by with_unfolding_all rfl) (hd : (x == ("__debug__" : Str)) = false := by decide) (hn : (x == ("__classdict__" : Str)) = false := by decide) :
    wpAny M A (eval (.Name x pos) (compEnvC scope cl CC env)) Q E (Mk s h t) := wpAny_Name (wpAny_loadName_free hk hl hc hv.cell H hn) hd
theorem y_cell {x : Str} {pos : Pos} {v : Value} {CC B : Addr} {cl : List (Str × Addr)} (hc : cl.lookup x = some B) (hv : At h B (Cel (some v))) (H : Q v (Mk s h t))
    (hk : (relabel scope env).kind = .function := by with_unfolding_all rfl) (hl : (compEnvC scope cl CC env).kindOf x = some .cell := by with_unfolding_all rfl) (hd : (x == ("__debug__" : Str)) = false := by decide) :
    wpAny M A (eval (.Name x pos) (compEnvC scope cl CC env)) Q E (Mk s h t) := wpAny_Name (wpAny_loadName_cell hk hl hc hv.cell H) hd
/-- bytes of a list that is new -/
theorem e_bytesX {x : Str} {np pos : Pos} {e : Expr} {PL : List Value → Prop} {PN : List Int → Prop} (H0 : Ev c outer D h0 L m led A env (.Name x np) (· = .type "bytes")) (H1 : EvL c outer D h0 L m led A env e PL) (hp : ∀ ys, PL ys → ∃ ns, IntsAre ys ns ∧ (∀ k ∈ ns, 0 ≤ k ∧ k < 256) ∧ ns.length ≤ 1000000 ∧ PN ns) (hh : A.handled = none)
    (he : starEach [e] env = (false, eval e env) :: starEach [] env := by with_unfolding_all rfl) : Ev c outer D h0 L m led A env (.Call (.Name x np) [e] [] pos) (fun v => ∃ ns, PN ns ∧ vB ns v) :=
  .mk fun S K => x_call (H0.run S fun fv h1 t1 q S => by
    subst q
    exact x_cwT (x_arg (H1.run S fun F ys h2 t2 hy f0 S => by
      obtain ⟨ns, hi, hr, hn, hP⟩ := hp ys hy
      exact x_argN (k_make S S.head.ln hh hi hr hn fun h3 b u t3 S _ hb => K _ _ _ ⟨ns, hP, b, u, rfl, hb⟩ (S.sublist (List.sublist_cons_self ..)))) he) he rfl)
theorem ints_snoc {ys : List Value} {ns : List Int} {k : Int} {u : Tok} (x : IntsAre ys ns) : IntsAre (ys ++ [.int k u]) (ns ++ [k]) := by
  induction x with
  | nil => exact .cons _ _ .nil
  | cons i t _ ih => exact .cons i t ih
/-- an if whose arms come together again -/
theorem x_ifJ {e : Expr} {pos : Pos} {body orelse rest : List Stmt} {QF : Flow → Shared → Prop} {h : Heap} {B : Bool → Prop} (J : (Str → Option Value) → Led → Prop) (H : Tb c outer D h0 L m led A env e B) (S : St c outer D h0 L m led h)
    (K1 : ∀ h' t' QB, (∀ m led h t, St c outer D h0 L m led h → J m led → QB .next (Mk s h t)) → B true → St c outer D h0 L m led h' → wpAny (model pw c.w) A (execs body env) QB E (Mk s h' t'))
    (K2 : ∀ h' t' QB, (∀ m led h t, St c outer D h0 L m led h → J m led → QB .next (Mk s h t)) → B false → St c outer D h0 L m led h' → wpAny (model pw c.w) A (execs orelse env) QB E (Mk s h' t'))
    (K : ∀ m led h t, St c outer D h0 L m led h → J m led → wpAny (model pw c.w) A (execs rest env) QF E (Mk s h t)) :
    wpAny (model pw c.w) A (execs (.If e body orelse pos :: rest) env) QF E (Mk s h t) :=
  x_ifE H S (fun h' t' b S => K1 h' t' _ (fun m led h t S j => K m led h t S j) b S) (fun h' t' b S => K2 h' t' _ (fun m led h t S j => K m led h t S j) b S)
theorem l_repP {e1 e2 : Expr} {pos pos2 : Pos} {p1 p2 : Int → Prop} (H1 : Ev c outer D h0 L m led A env e1 (vP p1)) (H2 : ∀ F ys, Ev c outer D h0 L m ((F, LN ys) :: led) A env e2 (vP p2)) (h2 : ∀ i, p2 i → 0 ≤ i ∧ i ≤ 1000) (he : starEach [e1] env = (false, eval e1 env) :: starEach [] env := by with_unfolding_all rfl) :
    EvL c outer D h0 L m led A env (.BinOp (.List [e1] pos2) .Mult e2 pos) (fun ys => ∃ k i, p1 k ∧ p2 i ∧ IntsAre ys (List.replicate i.toNat k)) :=
  .mk fun S K => wpAny_BinOp ((l_disp (es_one H1 he) fun vs ⟨v, q, _⟩ => by rw [q]; exact Nat.le_of_ble_eq_true rfl).run S fun F ys h t ⟨v, q, k, u, q2, hk⟩ f0 S => (H2 F ys).run S fun v h t ⟨i, ui, qi, hi⟩ S => by
    subst q q2 qi
    obtain ⟨i0, i1⟩ := h2 i hi
    exact mul_LN S S.head i0 i1 (Nat.le_of_ble_eq_true rfl) fun G h g0 S => K G _ h _ ⟨k, i, hk, hi, ints_rep (.cons k u .nil) _⟩ g0 (S.sublist (.cons_cons _ (.cons _ (List.Sublist.refl _)))))
theorem St.run {e : Expr} {P : Value → Prop} (S : St c outer D h0 L m led h) (H : Ev c outer D h0 L m led A env e P) (K : ∀ v h' t', P v → St c outer D h0 L m led h' → Q v (Mk s h' t')) : wpAny (model pw c.w) A (eval e env) Q E (Mk s h t) := H.run S K
theorem Ev.underB {e : Expr} {P : Value → Prop} {q : Addr × Kd} {box sb : Addr} (H : Ev c outer D h0 L m (BxL box sb ++ (led ++ [q])) A env e P) : Ev c outer D h0 L m (q :: (BxL box sb ++ led)) A env e P := Ev.under (by rw [List.append_assoc]; exact H)


-- F45
theorem NT.keys {l : List (Str × Int)} {kvs : List (Str × Value)} (x : NT l kvs) : kvs.map (·.1) = l.map (·.1) := by
  induction x with
  | nil => rfl
  | cons _ ih => rw [List.map_cons, List.map_cons, ih]
theorem nodup_take {ss : List Str} {i : Nat} {x : Str} (nd : ss.Nodup) (hx : ss[i]? = some x) : x ∉ ss.take i := fun hm => by
  obtain ⟨j, hj, e⟩ := List.mem_take_iff_getElem.mp hm
  have hi : i < ss.length := (List.getElem?_eq_some_iff.mp hx).1
  have := (List.getElem_inj nd).mp (e.trans (List.getElem?_eq_some_iff.mp hx).2.symm)
  (first | lia | omega)
set_option maxHeartbeats 4000000 in
theorem spec_law_drawn {hB : Heap} {box sb : Addr} (C : Cx c (n + 3) A outer hB none) (g : G c hB) (P : Pre c (fsOf outer) hB (BxL box sb))
    (K : ∀ T d R ix kvs rs vl h' t', (d == sysModules) = false → Told ix kvs rs vl → Ret c (fsOf outer) hB (BxL box sb) ((T, Tup [.ref d, .ref R]) :: (d, Dct c kvs) :: (R, LN rs) :: vl) h' → Q (.ref T) (Mk s h' t')) :
    wpAny (model pw c.w) A (call (.ref 325) [.ref box]) Q E (Mk s hB t) := by
  refine enterX (binds := [(Str.ofString "box", .ref box)]) C g P (by rfl) (by rfl) rfl (fun k => ⟨.inr ⟨rfl, rfl⟩, trivial⟩) (by decide +kernel) (fun L cx h t m cm QF EF A' hm hcm hcx hQ hN S C2 => ?_)
  obtain ⟨B, rfl⟩ : ∃ B, cx = [(Str.ofString "box", B)] := by
    match cx, hcx with
    | [(x, B)], h => exact ⟨B, by rw [show x = Str.ofString "box" from (List.cons.inj h).1]⟩
  have hb : cm (Str.ofString "box") = some (.ref box) := (hcm _).trans rfl
  have S : St c outer [box, sb] hB L m ([(B, Cel (cm (Str.ofString "box"))), (box, Bx sb), (sb, Sq)]) h := S
  rw [hb] at S
  clear hm hcm hcx hb
  have C3 := C2.le (k := n + 1) (by exact Nat.le_add_right _ 1)
  with_reducible refine x_asgSw [Str.ofString "told", Str.ofString "rows"] ?_
  with_reducible refine x_tupQ ?_
  refine x_arg (mk_dict0 S (fun d h d0 ds S _ => ?_))
  refine x_arg (x_lstQ (x_argN (mk_listN S (Nat.le_of_ble_eq_true rfl) (fun RL h R0 S _ => ?_))))
  refine x_argN (mk_tupQ S (Nat.le_of_ble_eq_true rfl) (fun T0 h t0 S _ => ?_))
  refine x_unpI S S.head C2.hd rfl (fun h S => ?_)
  refine b_name S (fun h t S => ?_)
  refine b_name S (fun h t S => ?_)
  refine assignInOrder_nil ?_
  obtain ⟨m2, em, S⟩ := S.op
  have f1 : m2 (Str.ofString "told") = some (.ref d) := by rw [em]; exact if_pos rfl
  have f2 : m2 (Str.ofString "rows") = some (.ref RL) := by rw [em]; exact (if_neg (by decide)).trans (if_pos rfl)
  clear em
  have S : St c outer [box, sb] hB L m2 (BxL box sb ++ [(B, Cel (some (.ref box))), (d, Dct c []), (RL, LN [])]) h := S.pick [4, 5, 3, 2, 1]
  refine x_for ?_
  refine x_call (x_blt S (b_sorted S.g) (x_cwB (x_arg (x_call (x_glob S (g_law_numbers S.g) (x_cw0 (K := hd.heap_1 c.w.params) S.g.X (by rfl) (spec_law_numbers (S.cx C3) S.g (fun dn kvn h t dns hnt R => ?_))))))))
  have S := S.ret (pre := []) R rfl
  have nl : kvn.length = 8 := hnt.len
  refine x_argN (d_sorted S S.head dns C2.hd (by (first | lia | omega)) (fun F vs ss h t hvs hss F0 S => ?_))
  refine iter_list S S.head (fun I h I0 S _ => ?_)
  have S : St c outer [box, sb] hB L m2 (BxL box sb ++ [(B, Cel (some (.ref box))), (d, Dct c []), (RL, LN []), (I, ItL F 0), (F, Lst vs)]) h := S.pick [3, 4, 5, 6, 7, 0, 1]
  have sn : ss.Nodup ∧ ∀ x ∈ ss, x ∈ lnums.map (·.1) := by
    rw [hnt.keys] at hss
    exact ⟨hss.nodup_iff.mpr (by decide +kernel), fun x hx => hss.mem_iff.mp hx⟩
  have bx : ∀ {led m h}, St c outer [box, sb] hB L m (BxL box sb ++ ((B, Cel (some (.ref box))) :: led)) h → At h B (Cel (some (.ref box))) := fun S => S.get 2 rfl
  refine x_loopO ss.length (fun i m led => ∃ ix kvs rs, led = BxL box sb ++ [(B, Cel (some (.ref box))), (d, Dct c kvs), (RL, LN rs), (I, ItL F i), (F, Lst vs)] ∧ Told ix kvs rs [] ∧ (∀ q ∈ ix, pname q.1 ∈ ss.take i) ∧ m (Str.ofString "told") = some (.ref d) ∧ m (Str.ofString "rows") = some (.ref RL)) S ⟨[], [], [], rfl, .nil, fun _ h => (nomatch h), f1, f2⟩ (fun i m led h t QT EF hi S hJ nx rt => ?_) (fun m led h t EF S hJ => ?_)
  · obtain ⟨ix, kvs, rs, rfl, T, hix, f1, f2⟩ := hJ
    obtain ⟨nm, u, hnm, hv⟩ : ∃ nm u, ss[i]? = some nm ∧ vs[i]? = some (.str nm u) := by
      obtain ⟨u, hu⟩ := hvs.get i _ (List.getElem?_eq_getElem hi)
      exact ⟨_, u, List.getElem?_eq_getElem hi, hu⟩
    refine next_list (S.front 5 rfl) (S.get 6 rfl) hv (fun h S _ => ?_)
    refine x_turn S (fun h t S => ?_)
    obtain ⟨m3, em, S⟩ := S.op
    have f1 : m3 (Str.ofString "told") = some (.ref d) := by rw [em]; exact (if_neg (by decide)).trans f1
    have f2 : m3 (Str.ofString "rows") = some (.ref RL) := by rw [em]; exact (if_neg (by decide)).trans f2
    have f3 : m3 (Str.ofString "name") = some (.str nm u) := by rw [em]; exact if_pos rfl
    clear em
    have S : St c outer [box, sb] hB L m3 (BxL box sb ++ [(B, Cel (some (.ref box))), (d, Dct c kvs), (RL, LN rs), (I, ItL F (i + 1)), (F, Lst vs)]) h := S.pick [1, 2, 3, 4, 5, 0, 6]
    have hmem := List.mem_of_getElem? hnm
    obtain ⟨j, hj, hfj, hpj⟩ := lnum_at (sn.2 nm hmem)
    have tk : ∀ x, x ∈ ss.take i → x ∈ ss.take (i + 1) := fun x hx => by rw [List.take_succ]; exact List.mem_append_left _ hx
    have tn : nm ∈ ss.take (i + 1) := by rw [List.take_succ, hnm]; simp
    refine x_ifE (b_eqP (e_modK (e_nextW (e_cell rfl (fun h S => bx S)) C3)) (Ev.mono e_int (vP.of (p1 := fun _ => True) trivial))) S (fun h t _ S => ?_) (fun h t _ S => ?_)
    · refine x_setE (e_lnumber (e_cell rfl (fun h S => bx S)) (e_locS f3) C2) (e_locS f3) S f1 3 rfl (by have := T.len; (first | lia | omega)) (fun v h t q S => ?_)
      obtain ⟨k, uk, rfl, hk⟩ := q
      have S : St c outer [box, sb] hB L m3 (BxL box sb ++ [(B, Cel (some (.ref box))), (d, Dct c (stored kvs nm (.int k uk))), (RL, LN rs), (I, ItL F (i + 1)), (F, Lst vs)]) h := S.pick [1, 2, 3, 0, 4, 5, 6]
      have jl : ((j : Nat) : Int) < 2 ^ 62 := (by decide : ∀ j ∈ numIx, ((j : Nat) : Int) < 2 ^ 62) j hj
      refine x_appE (e_lpair (e_tab (fun C g K => spec_law_numbers C g K) (fun h g => g_law_numbers g) (by rfl) (fun led => e_locS f3) hfj C3) (e_lvarint (Ev.mono (e_item (e_loc f1) (e_locS f3) (fun h S => S.get 3 rfl) (valueAt_stored ..)) fun v q => ⟨uk, q⟩) hk.1.1 hk.1.2 C3) (Int.natCast_nonneg _) jl (Nat.le_trans (vint_len _) (by decide)) C2) S f2 4 rfl (by have := T.len; (first | lia | omega)) (fun v h t q S => ?_)
      have S : St c outer [box, sb] hB L m3 (BxL box sb ++ [(B, Cel (some (.ref box))), (d, Dct c (stored kvs nm (.int k uk))), (RL, LN (rs ++ [v])), (I, ItL F (i + 1)), (F, Lst vs)]) h := S.pick [1, 2, 3, 4, 0, 5, 6]
      subst hpj
      refine x_nilN (x_nil (nx _ _ _ _ S ⟨ix ++ [(j, .num k)], _, _, rfl, T.add (x := .num k) ⟨hj, hk⟩ (fun hm => ?_) (.num uk) (fun _ h => (nomatch h)) (fun _ h => h) q, fun q hq => ?_, f1, f2⟩))
      · obtain ⟨r, hr, e⟩ := List.mem_map.mp hm
        obtain rfl : r.1 = j := e
        exact nodup_take sn.1 hnm (hix r hr)
      · rcases List.mem_append.mp hq with hq | hq
        · exact tk _ (hix q hq)
        · rw [List.mem_singleton.mp hq]; exact tn
    · refine x_nilN (x_nil (nx _ _ _ _ S ⟨ix, kvs, rs, rfl, T, fun q hq => tk _ (hix q hq), f1, f2⟩))
  obtain ⟨ix, kvs, rs, rfl, T, hix, f1, f2⟩ := hJ
  refine end_list (S.front 5 rfl) I0 (S.get 6 rfl) (List.getElem?_eq_none (by rw [hvs.len_eq]; exact Nat.le_refl _)) C2.hd (fun h S => ?_)
  have hold : ∀ q ∈ ix, q.1 ∈ numIx := fun q hq => by
    obtain ⟨j, hj, _, e⟩ := lnum_at (sn.2 _ (List.mem_of_mem_take (hix q hq)))
    exact pname_inj _ ((by decide : ∀ j ∈ numIx, j < 17) j hj) _ (T.ok q hq).lt e ▸ hj
  have S : St c outer [box, sb] hB L m (BxL box sb ++ [(B, Cel (some (.ref box))), (d, Dct c kvs), (RL, LN rs)]) h := S.pick [0, 1, 2, 3, 4]
  clear hix bx sn hss hvs hnt
  dsimp only
  refine x_for ?_
  refine x_call (x_blt S (b_sorted S.g) (x_cwB (x_arg (x_call (x_glob S (g_law_octets S.g) (x_cw0 (K := hd.heap_1 c.w.params) S.g.X (by rfl) (spec_law_octets (S.cx C3) S.g (fun dn kvn h t dns hnt R => ?_))))))))
  have S := S.ret (pre := []) R rfl
  have nl : kvn.length = 4 := hnt.len
  refine x_argN (d_sorted S S.head dns C2.hd (by (first | lia | omega)) (fun F vs ss h t hvs hss F0 S => ?_))
  refine iter_list S S.head (fun I h I0 S _ => ?_)
  have S : St c outer [box, sb] hB L m (BxL box sb ++ [(B, Cel (some (.ref box))), (d, Dct c kvs), (RL, LN rs), (I, ItL F 0), (F, Lst vs)]) h := S.pick [3, 4, 5, 6, 7, 0, 1]
  have sn : ss.Nodup ∧ ∀ x ∈ ss, x ∈ locts.map (·.1) := by
    rw [hnt.keys] at hss
    exact ⟨hss.nodup_iff.mpr (by decide +kernel), fun x hx => hss.mem_iff.mp hx⟩
  have bx : ∀ {led m h}, St c outer [box, sb] hB L m (BxL box sb ++ ((B, Cel (some (.ref box))) :: led)) h → At h B (Cel (some (.ref box))) := fun S => S.get 2 rfl
  refine x_loopO ss.length (fun i m led => ∃ ix kvs rs, led = BxL box sb ++ [(B, Cel (some (.ref box))), (d, Dct c kvs), (RL, LN rs), (I, ItL F i), (F, Lst vs)] ∧ Told ix kvs rs [] ∧ (∀ q ∈ ix, q.1 ∈ numIx ∨ pname q.1 ∈ ss.take i) ∧ m (Str.ofString "told") = some (.ref d) ∧ m (Str.ofString "rows") = some (.ref RL)) S ⟨ix, kvs, rs, rfl, T, fun q h => .inl (hold q h), f1, f2⟩ (fun i m led h t QT EF hi S hJ nx rt => ?_) (fun m led h t EF S hJ => ?_)
  · obtain ⟨ix, kvs, rs, rfl, T, hix, f1, f2⟩ := hJ
    obtain ⟨nm, u, hnm, hv⟩ : ∃ nm u, ss[i]? = some nm ∧ vs[i]? = some (.str nm u) := by
      obtain ⟨u, hu⟩ := hvs.get i _ (List.getElem?_eq_getElem hi)
      exact ⟨_, u, List.getElem?_eq_getElem hi, hu⟩
    refine next_list (S.front 5 rfl) (S.get 6 rfl) hv (fun h S _ => ?_)
    refine x_turn S (fun h t S => ?_)
    obtain ⟨m3, em, S⟩ := S.op
    have f1 : m3 (Str.ofString "told") = some (.ref d) := by rw [em]; exact (if_neg (by decide)).trans f1
    have f2 : m3 (Str.ofString "rows") = some (.ref RL) := by rw [em]; exact (if_neg (by decide)).trans f2
    have f3 : m3 (Str.ofString "name") = some (.str nm u) := by rw [em]; exact if_pos rfl
    clear em
    have S : St c outer [box, sb] hB L m3 (BxL box sb ++ [(B, Cel (some (.ref box))), (d, Dct c kvs), (RL, LN rs), (I, ItL F (i + 1)), (F, Lst vs)]) h := S.pick [1, 2, 3, 4, 5, 0, 6]
    have hmem := List.mem_of_getElem? hnm
    obtain ⟨j, hj, hfj, hpj⟩ := loct_at (sn.2 nm hmem)
    have tk : ∀ x, x ∈ ss.take i → x ∈ ss.take (i + 1) := fun x hx => by rw [List.take_succ]; exact List.mem_append_left _ hx
    have tn : nm ∈ ss.take (i + 1) := by rw [List.take_succ, hnm]; simp
    refine x_ifE (b_eqP (e_modK (e_nextW (e_cell rfl (fun h S => bx S)) C3)) (Ev.mono e_int (vP.of (p1 := fun _ => True) trivial))) S (fun h t _ S => ?_) (fun h t _ S => ?_)
    · refine x_asgE (P := vP (fun k => (nm = pname 2 → k = 16) ∧ 0 ≤ k ∧ k ≤ 20)) (e_ifx (b_eqS (e_locS f3) e_str) (fun q => Ev.mono e_int (vP.of ⟨fun _ => rfl, by decide, by decide⟩)) (fun q => e_modP (e_nextW (e_cell rfl (fun h S => bx S)) C3) (Ev.mono e_int (vP.of (p1 := (· = 21)) rfl)) (fun a b ha hb => np62 (by (first | lia | omega)) (by (first | lia | omega))) (fun a b ha hb => by subst hb; exact ⟨fun e => by subst e; exact absurd q (by decide +kernel), by (first | lia | omega), by (first | lia | omega)⟩))) S (fun v m4 h t q f4 hm4 S => ?_)
      obtain ⟨z, uz, rfl, z16, z0, z20⟩ := q
      have f1 := (hm4 _ (by decide)).trans f1
      have f2 := (hm4 _ (by decide)).trans f2
      have f3 := (hm4 _ (by decide)).trans f3
      clear hm4
      refine x_setE (P := fun v => ∃ ns, ns.length = z.toNat ∧ vB ns v) (e_bytesX (PL := fun ys => ∃ ns, IntsAre ys ns ∧ (∀ k ∈ ns, 0 ≤ k ∧ k < 256) ∧ ns.length = z.toNat) (e_blt (fun h g => b_bytes g)) (.mk fun S K => ?_) (fun ys ⟨ns, n1, n2, n3⟩ => ⟨ns, n1, n2, by (first | lia | omega), n3⟩) C2.hd) (e_locS f3) S f1 3 rfl (by have := T.len; (first | lia | omega)) (fun v h t q S => ?_)
      · refine x_comp (cl := [(Str.ofString "box", B)]) (by with_unfolding_all rfl) ?_
        refine x_call (x_blt S (b_range S.g) (x_cwT (x_arg (x_loc S f4 (x_argN (call_rng1 S (fun RG h t rg0 S _ => ?_)))))))
        refine iter_range S S.head (rng20 z0 z20).1 (fun I2 h i20 S _ => ?_)
        rw [(rng20 z0 z20).2] at S
        refine comp_goU z.toNat (fun i' ys led => led = (I2, ItR i' (z - i') 1) :: (RG, Rng 0 z 1) :: (BxL box sb ++ [(B, Cel (some (.ref box))), (d, Dct c kvs), (RL, LN rs), (I, ItL F (i + 1)), (F, Lst vs)]) ∧ ∃ ns, IntsAre ys ns ∧ ∀ k ∈ ns, 0 ≤ k ∧ k < 256) S ⟨by rw [Int.ofNat_zero, Int.sub_zero], [], .nil, fun k h => (nomatch h)⟩ (by (first | lia | omega)) (fun h t Q E S H => self_rng S H) (fun i' ys led h t CC G mC EB hi' hl S hJ => ?_) (fun ys led h t CC G mC EB hl cn fn S hJ => ?_)
        · obtain ⟨rfl, ns, hns, hr⟩ := hJ
          refine next_range (S.front 2 rfl) (by (first | lia | omega)) (fun h v t S _ => ?_)
          refine y_name (S.front 1 rfl) (fun h t mC1 e1 _ S => ?_)
          have S : St c outer [box, sb] hB L m4 (BxL box sb ++ [(CC, NsP mC1), (I2, ItR (i' + 1) (z - i' - 1) 1), (G, LN ys), (RG, Rng 0 z 1), (B, Cel (some (.ref box))), (d, Dct c kvs), (RL, LN rs), (I, ItL F (i + 1)), (F, Lst vs)]) h := S.pick [4, 5, 0, 1, 2, 3, 6, 7, 8, 9, 10]
          refine wpAny_BinOp (x_call (y_glob S.g (g_law_next S.g) (x_cw (K := hd.heap_1 c.w.params) (by rfl) (x_arg (y_cell (B := B) rfl (S.get 6 rfl) (x_argN ⟨S.g.X, spec_next (S.cx C3) S.g (S.toPre (pre := BxL box sb)) (fun r tr h t r0 r1 R => ?_)⟩))))))
          have S := S.ret (pre := BxL box sb) (news := []) R rfl
          refine i_int fun u3 t => i_mod (by decide) (fun u4 t => ?_) (PyProof.noPylong_small (by decide))
          have rm : 0 ≤ r.fmod 256 ∧ r.fmod 256 < 256 := ⟨Int.fmod_nonneg_of_pos _ (by decide), Int.fmod_lt_of_pos _ (by decide)⟩
          refine ⟨_, h, t, mC1, rfl, S.pick [2, 4, 3, 5, 0, 1, 6, 7, 8, 9, 10], ?_, ns ++ [r.fmod 256], ints_snoc hns, fun k hk => ?_⟩
          · rw [show (((i' + 1 : Nat) : Int)) = (i' : Int) + 1 from rfl, show z - ((i' : Int) + 1) = z - i' - 1 by (first | lia | omega)]; rfl
          · rcases List.mem_append.mp hk with hk | hk
            · exact hr k hk
            · rw [List.mem_singleton.mp hk]; exact rm
        · obtain ⟨rfl, ns, hns, hr⟩ := hJ
          refine end_range (S.front 2 rfl) i20 (by (first | lia | omega)) C2.hd (fun h S => ?_)
          refine comp_end cn S (fun h S => ?_)
          exact K G ys h t ⟨ns, hns, hr, by rw [← hns.length]; exact hl⟩ fn (S.pick [0, 2, 3, 4, 5, 6, 7, 8])
      obtain ⟨ns, hns, b, ub, rfl, hbb⟩ := q
      have S : St c outer [box, sb] hB L m4 (BxL box sb ++ [(B, Cel (some (.ref box))), (d, Dct c (stored kvs nm (.bytes b ub))), (RL, LN rs), (I, ItL F (i + 1)), (F, Lst vs)]) h := S.pick [1, 2, 3, 0, 4, 5, 6]
      have jl : ((j : Nat) : Int) < 2 ^ 62 := (by decide : ∀ j ∈ octIx, ((j : Nat) : Int) < 2 ^ 62) j hj
      refine x_appE (e_lpair (e_tab (fun C g K => spec_law_octets C g K) (fun h g => g_law_octets g) (by rfl) (fun led => e_locS f3) hfj C3) (Ev.mono (e_item (e_loc f1) (e_locS f3) (fun h S => S.get 3 rfl) (valueAt_stored ..)) fun v q => ⟨b, ub, q, hbb⟩) (Int.natCast_nonneg _) jl (by (first | lia | omega)) C2) S f2 4 rfl (by have := T.len; (first | lia | omega)) (fun v h t q S => ?_)
      have S : St c outer [box, sb] hB L m4 (BxL box sb ++ [(B, Cel (some (.ref box))), (d, Dct c (stored kvs nm (.bytes b ub))), (RL, LN (rs ++ [v])), (I, ItL F (i + 1)), (F, Lst vs)]) h := S.pick [1, 2, 3, 4, 0, 5, 6]
      subst hpj
      refine x_nilN (x_nil (nx _ _ _ _ S ⟨ix ++ [(j, .oct ns)], _, _, rfl, T.add (x := .oct ns) ⟨hj, fun e => ?_, by (first | lia | omega)⟩ (fun hm => ?_) (.oct ub hbb) (fun _ h => (nomatch h)) (fun _ h => h) q, fun q hq => ?_, f1, f2⟩))
      · subst e; rw [hns, z16 rfl]; rfl
      · obtain ⟨r, hr, e⟩ := List.mem_map.mp hm
        obtain rfl : r.1 = j := e
        rcases hix r hr with z | z
        · exact (by decide : ∀ j ∈ octIx, j ∉ numIx) _ hj z
        · exact nodup_take sn.1 hnm z
      · rcases List.mem_append.mp hq with hq | hq
        · exact (hix q hq).imp id (tk _)
        · rw [List.mem_singleton.mp hq]; exact .inr tn
    · refine x_nilN (x_nil (nx _ _ _ _ S ⟨ix, kvs, rs, rfl, T, fun q hq => (hix q hq).imp id (tk _), f1, f2⟩))
  obtain ⟨ix, kvs, rs, rfl, T, hix, f1, f2⟩ := hJ
  refine end_list (S.front 5 rfl) I0 (S.get 6 rfl) (List.getElem?_eq_none (by rw [hvs.len_eq]; exact Nat.le_refl _)) C2.hd (fun h S => ?_)
  have hold : ∀ q ∈ ix, q.1 ≠ 12 ∧ q.1 ≠ 13 := fun q hq => by
    rcases hix q hq with z | z
    · exact (by decide : ∀ j ∈ numIx, j ≠ 12 ∧ j ≠ 13) _ z
    · obtain ⟨j, hj, _, e⟩ := loct_at (sn.2 _ (List.mem_of_mem_take z))
      exact pname_inj _ ((by decide : ∀ j ∈ octIx, j < 17) j hj) _ (T.ok q hq).lt e ▸ (by decide : ∀ j ∈ octIx, j ≠ 12 ∧ j ≠ 13) _ hj
  have S : St c outer [box, sb] hB L m (BxL box sb ++ [(B, Cel (some (.ref box))), (d, Dct c kvs), (RL, LN rs)]) h := S.pick [0, 1, 2, 3, 4]
  clear hix bx sn hss hvs hnt
  have bx : ∀ {led m h}, St c outer [box, sb] hB L m (BxL box sb ++ ((B, Cel (some (.ref box))) :: led)) h → At h B (Cel (some (.ref box))) := fun S => S.get 2 rfl
  dsimp only
  refine x_ifJ (fun m led => ∃ ix kvs rs, led = BxL box sb ++ [(B, Cel (some (.ref box))), (d, Dct c kvs), (RL, LN rs)] ∧ Told ix kvs rs [] ∧ (∀ q ∈ ix, q.1 ≠ 13) ∧ m (Str.ofString "told") = some (.ref d) ∧ m (Str.ofString "rows") = some (.ref RL))
    (b_eqP (e_modK (e_nextW (e_cell rfl (fun h S => bx S)) C3)) (Ev.mono e_int (vP.of (p1 := fun _ => True) trivial))) S (fun h t QB nx _ S => ?_) (fun h t QB nx _ S => ?_) (fun m led h t S hJ => ?_)
  · have n12 : 12 ∉ ix.map (·.1) := fun hm => by
      obtain ⟨r, hr, e⟩ := List.mem_map.mp hm
      exact (hold r hr).1 e
    refine x_setE (k := pname 12) e_bool e_str S f1 3 rfl (by have := T.len; (first | lia | omega)) (fun v h t q S => ?_)
    subst q
    have S : St c outer [box, sb] hB L m (BxL box sb ++ [(B, Cel (some (.ref box))), (d, Dct c (stored kvs (pname 12) (.bool true))), (RL, LN rs)]) h := S.pick [1, 2, 3, 0, 4]
    refine x_appE (e_lpair e_int e_byt (by decide) (by decide) (by decide) C2) S f2 4 rfl (by have := T.len; (first | lia | omega)) (fun v h t q S => ?_)
    exact x_nil (nx _ _ _ _ (S.pick [1, 2, 3, 4, 0]) ⟨ix ++ [(12, .flag true)], _, _, rfl, T.add (x := .flag true) ⟨rfl, rfl⟩ n12 .flag (fun _ h => (nomatch h)) (fun _ h => h) q, fun q hq => by
      rcases List.mem_append.mp hq with hq | hq
      · exact (hold q hq).2
      · rw [List.mem_singleton.mp hq]; exact (by decide : 12 ≠ 13), f1, f2⟩)
  · exact x_nil (nx _ _ _ _ S ⟨ix, kvs, rs, rfl, T, fun q hq => (hold q hq).2, f1, f2⟩)
  obtain ⟨ix, kvs, rs, rfl, T, hold, f1, f2⟩ := hJ
  refine x_ifJ (fun m led => ∃ ix kvs rs vl, led = BxL box sb ++ ((B, Cel (some (.ref box))) :: (d, Dct c kvs) :: (RL, LN rs) :: vl) ∧ Told ix kvs rs vl ∧ m (Str.ofString "told") = some (.ref d) ∧ m (Str.ofString "rows") = some (.ref RL))
    (b_eqP (e_modK (e_nextW (e_cell rfl (fun h S => bx S)) C3)) (Ev.mono e_int (vP.of (p1 := fun _ => True) trivial))) S (fun h t QB nx _ S => ?_) (fun h t QB nx _ S => ?_) (fun m led h t S hJ => ?_)
  · have n13 : 13 ∉ ix.map (·.1) := fun hm => by
      obtain ⟨r, hr, e⟩ := List.mem_map.mp hm
      exact hold r hr e
    with_reducible refine x_asgSw [Str.ofString "cid", Str.ofString "token"] ?_
    with_reducible refine x_tupQ ?_
    refine x_arg (S.run (e_bytesX (PN := fun ns => 1 ≤ ns.length ∧ ns.length ≤ 20) (e_blt (fun h g => b_bytes g)) (l_repP (p2 := fun i => 1 ≤ i ∧ i ≤ 20) (Ev.mono e_int (vP.of (p1 := (· = 7)) rfl)) (fun F ys => Ev.underB (e_addP (Ev.mono e_int (vP.of (p1 := (· = 1)) rfl)) (e_modK (e_nextW (e_cell rfl (fun h S => S.get 2 rfl)) C3)) fun a b ha hb => by subst ha; (first | lia | omega))) (fun i hi => by (first | lia | omega))) (fun ys ⟨k, i, hk, hi, hys⟩ => ⟨_, hys, fun k' hk' => by rw [List.eq_of_mem_replicate hk', hk]; decide, by rw [List.length_replicate]; (first | lia | omega), by rw [List.length_replicate]; (first | lia | omega)⟩) C2.hd) (fun v h t q S => ?_))
    obtain ⟨l3, ⟨c0, c1⟩, b3, u3, rfl, hb3⟩ := q
    refine x_arg (S.run (e_bytesX (PN := fun ns => ns.length = 16) (e_blt (fun h g => b_bytes g)) (l_repP (p1 := fun k => 0 ≤ k ∧ k < 256) (p2 := (· = 16)) (e_modK (e_nextW (e_cell rfl (fun h S => S.get 2 rfl)) C3)) (fun F ys => Ev.mono e_int (vP.of rfl)) (fun i hi => by subst hi; decide)) (fun ys ⟨k, i, hk, hi, hys⟩ => ⟨_, hys, fun k' hk' => by rw [List.eq_of_mem_replicate hk']; exact hk, by rw [List.length_replicate, hi]; decide, by rw [List.length_replicate, hi]; rfl⟩) C2.hd) (fun v h t q S => ?_))
    obtain ⟨l4, t16, b4, u4, rfl, hb4⟩ := q
    refine x_argN (mk_tupQ S (Nat.le_of_ble_eq_true rfl) (fun T0 h t0 S _ => ?_))
    refine x_unpI S S.head C2.hd rfl (fun h S => ?_)
    refine b_name S (fun h t S => ?_)
    refine b_name S (fun h t S => ?_)
    refine assignInOrder_nil ?_
    obtain ⟨m4, em, S⟩ := S.op
    have g1 : m4 (Str.ofString "told") = some (.ref d) := by rw [em]; exact (if_neg (by decide)).trans ((if_neg (by decide)).trans f1)
    have g2 : m4 (Str.ofString "rows") = some (.ref RL) := by rw [em]; exact (if_neg (by decide)).trans ((if_neg (by decide)).trans f2)
    have g3 : m4 (Str.ofString "cid") = some (.bytes b3 u3) := by rw [em]; exact if_pos rfl
    have g4 : m4 (Str.ofString "token") = some (.bytes b4 u4) := by rw [em]; exact (if_neg (by decide)).trans (if_pos rfl)
    clear em
    have S : St c outer [box, sb] hB L m4 (BxL box sb ++ [(B, Cel (some (.ref box))), (d, Dct c kvs), (RL, LN rs)]) h := S.drop 1
    with_reducible refine x_asgSub ?_
    with_reducible refine x_tupQ ?_
    refine x_arg (S.run (e_byt (ks := fourB)) (fun v h t q S => ?_))
    obtain ⟨b1, u1, rfl, hb1⟩ := q
    refine x_arg (i_int fun u5 t => x_arg (S.run (e_byt (ks := sixtB)) (fun v h t q S => ?_)))
    obtain ⟨b2, u2, rfl, hb2⟩ := q
    refine x_arg (i_int fun u6 t => x_arg (x_loc S g3 (x_arg (x_loc S g4 (x_argN (mk_tupQ S (Nat.le_of_ble_eq_true rfl) (fun TA h ta0 S _ => ?_)))))))
    refine x_loc S g1 (i_str fun u7 t => d_setS (S.front 4 rfl) (by have := T.len; (first | lia | omega)) (fun h t S => ?_))
    have S : St c outer [box, sb] hB L m4 (BxL box sb ++ [(B, Cel (some (.ref box))), (d, Dct c (stored kvs (pname 13) (.ref TA))), (RL, LN rs), (TA, Tup [.bytes b1 u1, .int 4433 u5, .bytes b2 u2, .int 258 u6, .bytes b3 u3, .bytes b4 u4])]) h := S.pick [2, 3, 4, 0, 5, 1]
    refine x_asgE (e_addB (e_addB (e_addB (e_addB (e_addB (e_byt (ks := fourB)) (e_bytesB (es_consI e_int (es_consI e_int es_nilI)) (by decide) (by decide) C2.hd) (by decide)) (e_byt (ks := sixtB)) (by decide)) (e_bytesB (es_consI e_int (es_consI e_int (es_consI (e_len (e_blt fun h g => b_len g) (e_locB g3 ⟨_, _, rfl, hb3⟩) (by (first | lia | omega))) es_nilI))) (by exact (by decide : 3 ≤ 100)) (fun k hk => ?_) C2.hd) (by exact (by decide : 22 + 3 ≤ 16777216))) (e_locB g3 ⟨_, _, rfl, hb3⟩) (by show 25 + l3.length ≤ 16777216; (first | lia | omega))) (e_locB g4 ⟨_, _, rfl, hb4⟩) ?_) S (fun v m5 h t q g5 hm5 S => ?_)
    · have : k = 1 ∨ k = 2 ∨ k = l3.length := by simpa using hk
      (first | lia | omega)
    · rw [List.length_append]; show 25 + l3.length + l4.length ≤ 16777216; (first | lia | omega)
    refine x_appE (e_lpair e_int (e_locB g5 q) (by decide) (by decide) ?_ C2) S ((hm5 _ (by decide)).trans g2) 4 rfl (by have := T.len; (first | lia | omega)) (fun v h t q S => ?_)
    · rw [List.length_append, List.length_append]; show 25 + l3.length + l4.length ≤ 1000000; (first | lia | omega)
    have ez : ((((fourB ++ [17, 81]) ++ sixtB) ++ [1, 2, (l3.length : Int)]) ++ l3) ++ l4 = encV (.addr (fourB, 4433, sixtB, 258, l3, l4)) := by simp [encV, putAddr, b16]
    rw [ez] at q
    exact x_nil (nx _ _ _ _ (S.pick [1, 2, 3, 4, 0, 5]) ⟨ix ++ [(13, .addr (fourB, 4433, sixtB, 258, l3, l4))], _, _, _, rfl, T.add (x := .addr (fourB, 4433, sixtB, 258, l3, l4)) ⟨rfl, rfl, rfl, rfl, rfl, ⟨c0, c1⟩, t16⟩ n13 (.addr hb1 hb2 hb3 hb4) (fun _ h => h) (fun _ h => (nomatch h)) q, (hm5 _ (by decide)).trans g1, (hm5 _ (by decide)).trans g2⟩)
  · exact x_nil (nx _ _ _ _ S ⟨ix, kvs, rs, [], rfl, T, f1, f2⟩)
  obtain ⟨ix, kvs, rs, vl, rfl, T, f1, f2⟩ := hJ
  refine x_ret (x_tupQ (x_arg (x_loc S f1 (x_arg (x_loc S f2 (x_argN (mk_tupQ S (Nat.le_of_ble_eq_true rfl) (fun T0 h t0 S _ => ?_))))))))
  have S1 : St c outer [box, sb] hB L m (BxL box sb ++ ((T0, Tup [.ref d, .ref RL]) :: (d, Dct c kvs) :: (RL, LN rs) :: vl)) h := (S.perm (List.perm_middle (l₁ := BxL box sb))).sublist ((List.Sublist.refl _).append (.cons_cons _ (.cons _ (List.Sublist.refl _))))
  exact hQ _ _ (K T0 d RL ix kvs rs vl h _ ds T (S1.done rfl))


-- F46
/-! lambdas -/
noncomputable def TabP (ls : List (Nat × Nat)) : Kd := fun o => ∃ ps, o = tabObj ps ∧ TriplesOk ps.toList ∧ ∀ pos : Pos, (pos.line, pos.col) ∉ ls → codeAmong pos ps.toList = none
noncomputable def CodK (qual : Str) : Kd := fun o => ∃ vs t, o.data = .fields vs ∧ vs[1]? = some (.str qual t)
noncomputable def LamK (qual : Str) (params : Arguments) (body : Expr) (scope : Scope) (cl : List (Str × Addr)) (c' : Addr) : Kd := fun o => ∃ pm ctv, o = kla_obj (Str.ofString "<lambda>") qual params body scope cl pm c' ctv
theorem among_more {pos : Pos} {x y : Nat} {v : Value} : ∀ {l : List Value}, TriplesOk l → codeAmong pos l = none → (pos.line, pos.col) ≠ (x, y) → codeAmong pos (l ++ [rawInt x, rawInt y, v]) = none
  | [], _, _, ne => by
    have : ¬ (((x : Int) == pos.line && (y : Int) == pos.col) = true) := fun q => by
      rw [Bool.and_eq_true, beq_iff_eq, beq_iff_eq] at q
      exact ne (by rw [Prod.mk.injEq]; (first | lia | omega))
    show (if ((x : Int) == pos.line && (y : Int) == pos.col) = true then _ else _) = none
    rw [if_neg this]; rfl
  | .int a _ :: .int b _ :: u :: r, ht, h, ne => by
    have h' : (if (a == pos.line && b == pos.col) = true then some u else codeAmong pos r) = none := h
    by_cases q : (a == pos.line && b == pos.col) = true
    · rw [if_pos q] at h'; cases h'
    · rw [if_neg q] at h'
      show (if (a == pos.line && b == pos.col) = true then some u else codeAmong pos (r ++ [rawInt x, rawInt y, v])) = none
      rw [if_neg q]
      exact among_more (l := r) ht h' ne
theorem triples_more {x y : Nat} {v : Value} : ∀ {l : List Value}, TriplesOk l → TriplesOk (l ++ [rawInt x, rawInt y, v])
  | [], _ => trivial
  | .int a _ :: .int b _ :: u :: r, ht => triples_more (l := r) ht
theorem St.add {k : Kd} (S : St c outer D h0 L m led h) (ha : At h a k) (h00 : h0.get? a = none) (nin : a ∉ led.map (·.1)) (nL : a ≠ L) : St c outer D h0 L m ((a, k) :: led) h := by
  refine ⟨S.g, S.ext, S.n0, S.ns, S.Lf, ?_, fun q => ?_, fun b hb => ⟨(S.nF b hb).1, fun q => ?_⟩, fun p hp => ?_, fun p hp => ?_, fun p hp => ?_, S.fo⟩
  · rw [List.map_cons]; exact List.nodup_cons.mpr ⟨nin, S.nd⟩
  · rw [List.map_cons] at q
    rcases List.mem_cons.mp q with q | q
    · exact nL q.symm
    · exact S.nL q
  · rw [List.map_cons] at q
    rcases List.mem_cons.mp q with q | q
    · obtain ⟨o, e⟩ := (S.nF b hb).1
      subst q
      exact nn_of e h00
    · exact (S.nF b hb).2 q
  · rcases List.mem_cons.mp hp with rfl | hp
    · exact ha
    · exact S.lat p hp
  · rcases List.mem_cons.mp hp with rfl | hp
    · exact .inr h00
    · exact S.own p hp
  · rcases List.mem_cons.mp hp with rfl | hp
    · exact .inl (S.nB h00)
    · exact S.hi p hp
theorem mk_lambda {params : Arguments} {body : Expr} {pos : Pos} {ls : List (Nat × Nat)} {c0 : Addr} {clos : List (Str × Addr)} {lscope : Scope} (S : St c outer D h0 L m ((348, TabP ls) :: led) h)
    (hcd : cd = .ref c0) (hC : CodeHd h c0 348) (hb : h.BuiltinsAt c.mg 348) (hn : (pos.line, pos.col) ∉ ls) (hdef : defaultsOf params (envY name scope L a cd cY) = ([], [])) (hcl : closureFor lscope (envY name scope L a cd cY) = pure clos)
    (K : ∀ f c' h' t', h0.get? f = none → St c outer D h0 L m ((f, LamK ((envY name scope L a cd cY).qual ++ Str.ofString "<lambda>") params body lscope clos c') :: (c', CodK ((envY name scope L a cd cY).qual ++ Str.ofString "<lambda>")) :: (348, TabP ((pos.line, pos.col) :: ls)) :: led) h' → Q (.ref f) (Mk s h' t')) :
    wpAny M A (eval (.Lambda params body lscope pos) (envY name scope L a cd cY)) Q E (Mk s h t) := by
  obtain ⟨o, ho, ps, rfl, ht, hnf⟩ := S.head
  have hgP : mainGlobals ≠ 348 := by decide
  refine kla_eval hdef (kla_makeFunction (mg := c.mg) (c := c0) hcl rfl S.g.T.g hcd hC ho ht (hnf pos hn) hgP hb fun c' ctv h' tk hx hge hlt hrec htb => ?_)
  have S1 := S.upd' (k' := TabP ((pos.line, pos.col) :: ls)) (fun b o nb e => hx b o nb e) ⟨_, htb, _, rfl, by rw [Array.toList_append]; exact triples_more ht, fun pos' hp => by
    rw [Array.toList_append]
    exact among_more ht (hnf pos' fun q => hp (List.mem_cons_of_mem _ q)) fun q => hp (by rw [q]; exact List.mem_cons_self ..)⟩
  obtain ⟨c2, oc, vs, tq, e2, hoc, hd2, hv2⟩ := hrec
  cases e2
  have hnew : h.get? c' = none := Heap.get?_none_of_le hge
  have S2 := S1.add (k := CodK ((envY name scope L a cd cY).qual ++ Str.ofString "<lambda>")) ⟨oc, hoc, vs, tq, hd2, hv2⟩ (S.old hnew) (fun q => S.live q hnew) (fun q => S.Lnew (q ▸ hnew))
  exact K _ c' _ tk (S1.old (new_size h')) (S2.push _ _ ⟨_, ctv, rfl⟩)
theorem CodeRec.of {qual : Str} {c' : Addr} (x : At h c' (CodK qual)) : h.CodeRec (.ref c') qual := let ⟨o, e, vs, t, d, v⟩ := x; ⟨c', o, vs, t, rfl, e, d, v⟩
/-- entering a lambda -/
theorem enterLam {f c' : Addr} {qual : Str} {params : Arguments} {body : Expr} {clos : List (Str × Addr)} (C : Cx c (n + 1) A outer h hv) (g : G c h) (hf : At h f (LamK qual params body scope clos c')) (hc : At h c' (CodK qual))
    (hbind : ∀ pm ctv, bindArgs (kla_fn (Str.ofString "<lambda>") qual params body scope clos pm (.ref c') ctv) ⟨[], []⟩ = pure []) (hcell : ∀ x ∈ scope.names, x.2 ≠ .cell)
    (H : ∀ L h1 A' EF, (∀ e s', wpAny (model pw c.w) A' (leaving (envY qual scope L f (.ref c') clos) e) (fun _ s'' => E e s'') (fun e' s'' => E e' s'') s' → EF e s') → St c outer [] h L (fun _ => none) [] h1 → Cx c n A' (envY qual scope L f (.ref c') clos :: outer) h1 hv →
      wpAny (model pw c.w) A' (eval body (envY qual scope L f (.ref c') clos)) Q EF (Mk s h1 t))
    (hco : scope.isCoroutine = false := by with_unfolding_all rfl) (hgen : scope.isGenerator = false := by with_unfolding_all rfl) (hk : scope.kind = .function := by with_unfolding_all rfl) :
    wpAny (model pw c.w) A (call (.ref f) []) Q E (Mk s h t) := by
  obtain ⟨o, ho, pm, ctv, rfl⟩ := hf
  refine wpAny_call (kla_callFunE (s := Mk s h t) (by have := C.dp; (first | lia | omega)) ho rfl hco hgen rfl (CodeRec.of hc) ?_)
  rw [hbind pm ctv]
  refine wpAny_pure (wpAny_newFunctionEnv hcell (by intro y hy; simp at hy) (fun h1 hns hsb => ⟨(g.T.nolimit).fresh _ hsb, ?_⟩) hk)
  have keep : ∀ b o, h.get? b = some o → h1.get? b = some o := fun b o e => hsb.extBut b o (Nat.ne_of_lt (Heap.lt_size e)) (Heap.get?_push_of_some _ e)
  have g1 : G c h1 := g.ext (D := []) (Fs := []) ((Ext.refl c [] [] h).keep keep)
  have S : St c outer [] h h.objs.size (fun _ => none) [] h1 := 
    ⟨g1, (Ext.refl c _ _ h).keep keep, g.n1, hns, new_size h, List.nodup_nil, fun q => (nomatch q), fun b hb => ⟨C.ok.lv b hb, fun q => (nomatch q)⟩, fun p hp => (nomatch hp), fun p hp => (nomatch hp), fun p hp => (nomatch hp), C.ok.of fun b o _ e => ⟨o, keep b o e, rfl⟩⟩
  exact kla_codeExpr (wpAny_mono (H h.objs.size h1 _ _ (fun e s' z => z) S (cx_in C hk hns g S.fo)) (fun _ _ z => z) fun _ _ z => z)
section
variable {f c' : Addr} {hB : Heap} {qual : Str} {params : Arguments} {clos : List (Str × Addr)} {np pos : Pos} {a1 a2 a3 a4 a5 : Expr}
theorem Old.in {L0 : Addr} {o1 : List Env} {L : Addr} (hf : env.frame = some L0) (hn : hB.get? L0 = none) (ho : Old c (fsOf outer) hB h) (S : St c (env :: outer) [] h L m led h') : Old c (fsOf outer) hB h' := fun a k ha na => S.base (ho a k ha na) (by
  rw [fs_cons hf]
  intro q
  rcases List.mem_cons.mp q with q | q
  · subst q; exact ha.nn hn
  · exact na q)
theorem refused_read {ks : List Int} {role : Str} (hf : At hB f (LamK qual params (.Call (.Name (Str.ofString "read_params") np) [a1, a2] [] pos) scope clos c')) (nf : f ∉ fsOf outer) (hc : At hB c' (CodK qual)) (nc : c' ∉ fsOf outer)
    (hbind : ∀ pm ctv, bindArgs (kla_fn (Str.ofString "<lambda>") qual params (.Call (.Name (Str.ofString "read_params") np) [a1, a2] [] pos) scope clos pm (.ref c') ctv) ⟨[], []⟩ = pure []) (hcell : ∀ x ∈ scope.names, x.2 ≠ .cell)
    (hr : role.length ≤ 60) (hks : ks.length ≤ 4000) (hno : rdParams role ks = none)
    (H1 : ∀ {o1 : List Env} {h0 h1 : Heap} {L : Addr} {A : Around}, Cx c (n + 7) A (envY qual scope L f (.ref c') clos :: o1) h1 none → (∀ h, St c o1 [] h0 L (fun _ => none) [] h → Old c (fsOf outer) hB h) → Ev c o1 [] h0 L (fun _ => none) [] A (envY qual scope L f (.ref c') clos) a1 (vB ks))
    (H2 : ∀ {o1 : List Env} {h0 h1 : Heap} {L : Addr} {A : Around}, Ev c o1 [] h0 L (fun _ => none) [] A (envY qual scope L f (.ref c') clos) a2 (vS role))
    (hl : ∀ L, (envY qual scope L f (.ref c') clos).kindOf (Str.ofString "read_params") = some .globalImplicit) (he : ∀ L, starEach [a1, a2] (envY qual scope L f (.ref c') clos) = (false, eval a1 (envY qual scope L f (.ref c') clos)) :: starEach [a2] (envY qual scope L f (.ref c') clos)) 
    (he2 : ∀ L, starEach [a2] (envY qual scope L f (.ref c') clos) = (false, eval a2 (envY qual scope L f (.ref c') clos)) :: starEach [] (envY qual scope L f (.ref c') clos)) (hp : ∀ L, (backTo pos (starEach [a2] (envY qual scope L f (.ref c') clos))).any (·.1) = false)
    (hco : scope.isCoroutine = false := by with_unfolding_all rfl) (hgen : scope.isGenerator = false := by with_unfolding_all rfl) (hk : scope.kind = .function := by with_unfolding_all rfl) :
    Refused c (n + 8) outer hB f := by
  intro A env h s t Q E ⟨L0, hL0, nL0⟩ C g ho K
  refine enterLam (n := n + 7) C g (ho _ _ hf nf) (ho _ _ hc nc) hbind hcell (fun L h1 A' EF hEF S C2 => ?_) hco hgen hk
  refine x_call (x_glob S (g_read_params S.g) (x_cw (K := hd.heap_1 c.w.params) (by rfl) (x_arg (Ev.run (H1 C2 fun h S => ho.in (o1 := []) hL0 nL0 S) S fun v h t ⟨b, u, q, hb⟩ S => x_arg (Ev.run (H2 (h1 := h1)) S fun v2 h t ⟨u2, q2⟩ S => x_argN ⟨S.g.X, ?_⟩) (he2 L)) (he L)) (he L) (hp L)) hk (hl L))
  subst q q2
  refine spec_read_params (n := n) hr hb hks (S.cx C2 rfl hk) S.g (fun un f e => by rw [hno] at e; cases e) (fun _ e h t X x => hEF _ _ ?_)
  exact x_out S rfl hk C2.fr X (fly_h rfl x) (fun b q => (nomatch q)) (fun h4 X4 x4 => K e h4 t X4 x4)
end


-- F47
section
variable {f c' : Addr} {hB : Heap} {qual : Str} {params : Arguments} {clos : List (Str × Addr)} {np pos : Pos} {a1 a2 a3 a4 a5 : Expr}
/-- an argument that is a dict -/
noncomputable def DArg (c : Ct) (o1 : List Env) (h0 : Heap) (L : Addr) (A : Around) (env : Env) (e : Expr) (kvs : List (Str × Value)) : Prop :=
  ∀ {Q : Value → Shared → Prop} {E : Value → Shared → Prop} {s : Shared} {h : Heap} {t : Nat}, St c o1 [] h0 L (fun _ => none) [] h → (∀ d led h' t', St c o1 [] h0 L (fun _ => none) led h' → (∀ h, St c o1 [] h0 L (fun _ => none) led h → At h d (Dct c kvs)) → d ∉ L :: fsOf o1 → (d == sysModules) = false → Q (.ref d) (Mk s h' t')) →
    wpAny (model pw c.w) A (eval e env) Q E (Mk s h t)
theorem darg_new {o1 : List Env} {h0 : Heap} {L : Addr} {A : Around} {p1 : Pos} : DArg c o1 h0 L A env (.Dict [] [] p1) [] := fun S K => mk_dict0 S fun d h d0 ds S _ => K d _ h _ S (fun h S => S.head) (fun q => by
  rcases List.mem_cons.mp q with q | q
  · exact S.nL (q ▸ List.mem_cons_self ..)
  · exact (S.nF d q).2 (List.mem_cons_self ..)) ds
theorem darg_old {o1 : List Env} {h0 : Heap} {L B d : Addr} {A : Around} {x : Str} {p1 : Pos} {kvs : List (Str × Value)} (hc : cY.lookup x = some B) (hB : ∀ h, St c o1 [] h0 L (fun _ => none) [] h → At h B (Cel (some (.ref d)))) (hd : ∀ h, St c o1 [] h0 L (fun _ => none) [] h → At h d (Dct c kvs)) (nd : d ∉ L :: fsOf o1) (ds : (d == sysModules) = false)
    (hk : scope.kind = .function := by with_unfolding_all rfl) (hl : (envY name scope L a cd cY).kindOf x = some .free := by with_unfolding_all rfl) (hdb : (x == ("__debug__" : Str)) = false := by decide) (hn : (x == ("__classdict__" : Str)) = false := by decide) :
    DArg c o1 h0 L A (envY name scope L a cd cY) (.Name x p1) kvs := fun S K => x_free hc (hB _ S) (K d _ _ _ S hd nd ds) hk hl hdb hn
theorem refused_ids {kvs : List (Str × Value)} {role : Str} {i o r source original retry : Option (List Int)} (hf : At hB f (LamK qual params (.Call (.Name (Str.ofString "checked_ids") np) [a1, a2, a3, a4, a5] [] pos) scope clos c')) (nf : f ∉ fsOf outer) (hc : At hB c' (CodK qual)) (nc : c' ∉ fsOf outer)
    (hbind : ∀ pm ctv, bindArgs (kla_fn (Str.ofString "<lambda>") qual params (.Call (.Name (Str.ofString "checked_ids") np) [a1, a2, a3, a4, a5] [] pos) scope clos pm (.ref c') ctv) ⟨[], []⟩ = pure []) (hcell : ∀ x ∈ scope.names, x.2 ≠ .cell)
    (hi : OB i (idAt kvs "initial_source_connection_id")) (ho : OB o (idAt kvs "original_destination_connection_id")) (hr : OB r (idAt kvs "retry_source_connection_id")) (hno : okIds role i o r source original retry = false)
    (H1 : ∀ {o1 : List Env} {h0 h1 : Heap} {L : Addr} {A : Around}, Cx c (n + 4) A (envY qual scope L f (.ref c') clos :: o1) h1 none → (∀ h, St c o1 [] h0 L (fun _ => none) [] h → Old c (fsOf outer) hB h) → (∀ a k, At hB a k → a ∉ fsOf outer → a ∉ L :: fsOf o1) → DArg c o1 h0 L A (envY qual scope L f (.ref c') clos) a1 kvs)
    (H2 : ∀ {o1 : List Env} {h0 : Heap} {L : Addr} {A : Around} {led : Led}, Ev c o1 [] h0 L (fun _ => none) led A (envY qual scope L f (.ref c') clos) a2 (vS role))
    (H3 : ∀ {o1 : List Env} {h0 : Heap} {L : Addr} {A : Around} {led : Led}, Ev c o1 [] h0 L (fun _ => none) led A (envY qual scope L f (.ref c') clos) a3 (OB original))
    (H4 : ∀ {o1 : List Env} {h0 : Heap} {L : Addr} {A : Around} {led : Led}, Ev c o1 [] h0 L (fun _ => none) led A (envY qual scope L f (.ref c') clos) a4 (OB source))
    (H5 : ∀ {o1 : List Env} {h0 : Heap} {L : Addr} {A : Around} {led : Led}, Ev c o1 [] h0 L (fun _ => none) led A (envY qual scope L f (.ref c') clos) a5 (OB retry))
    (hl : ∀ L, (envY qual scope L f (.ref c') clos).kindOf (Str.ofString "checked_ids") = some .globalImplicit)
    (he : ∀ L e r, (e :: r = [a1, a2, a3, a4, a5] ∨ e :: r = [a2, a3, a4, a5] ∨ e :: r = [a3, a4, a5] ∨ e :: r = [a4, a5] ∨ e :: r = [a5]) → starEach (e :: r) (envY qual scope L f (.ref c') clos) = (false, eval e (envY qual scope L f (.ref c') clos)) :: starEach r (envY qual scope L f (.ref c') clos))
    (hp : ∀ L, (backTo pos (starEach [a2, a3, a4, a5] (envY qual scope L f (.ref c') clos))).any (·.1) = false)
    (hco : scope.isCoroutine = false := by with_unfolding_all rfl) (hgen : scope.isGenerator = false := by with_unfolding_all rfl) (hk : scope.kind = .function := by with_unfolding_all rfl) :
    Refused c (n + 8) outer hB f := by
  intro A env h s t Q E ⟨L0, hL0, nL0⟩ C g hold K
  refine enterLam (n := n + 7) C g (hold _ _ hf nf) (hold _ _ hc nc) hbind hcell (fun L h1 A' EF hEF S C2 => ?_) hco hgen hk
  have C4 := C2.le (k := n + 4) (by exact Nat.le_add_right _ 3)
  refine x_call (x_glob S (g_checked_ids S.g) (x_cw (K := hd.heap_1 c.w.params) (by rfl) (x_arg (H1 C4 (fun h S => hold.in (o1 := []) hL0 nL0 S) (fun a k ha na => ?_) S fun d led h t S hd nd ds =>
    x_arg (Ev.run H2 S fun v2 h t ⟨u2, q2⟩ S => x_arg (Ev.run H3 S fun v3 h t q3 S => x_arg (Ev.run H4 S fun v4 h t q4 S => x_arg (Ev.run H5 S fun v5 h t q5 S => x_argN ⟨S.g.X, ?_⟩) (he _ _ _ (.inr (.inr (.inr (.inr rfl)))))) (he _ _ _ (.inr (.inr (.inr (.inl rfl)))))) (he _ _ _ (.inr (.inr (.inl rfl))))) (he _ _ _ (.inr (.inl rfl)))) (he _ _ _ (.inl rfl))) (he _ _ _ (.inl rfl)) (hp L)) hk (hl L))
  · rw [fs_cons hL0]
    intro q
    rcases List.mem_cons.mp q with q | q
    · subst q; exact (hold _ _ ha na).nn S.Lf
    · rcases List.mem_cons.mp q with q | q
      · subst q; exact ha.nn nL0
      · exact na q
  subst q2
  refine spec_checked_ids (n := n) (hd _ S) (by rw [fs_cons (env := envY qual scope L f (.ref c') clos) (L := L) rfl]; exact nd) ds hi ho hr q4 q3 q5 (S.cx C4 rfl hk) S.g (fun e => by rw [hno] at e; cases e) (fun _ e h t X x => hEF _ _ ?_)
  exact x_out S rfl hk C2.fr X (fly_h rfl x) (fun b q => (nomatch q)) (fun h4 X4 x4 => K e h4 t X4 x4)
end


-- F48
/-! dicts as maps -/
section
variable {ka kb kvs more : List (Str × Value)} {k k' : Str} {v : Value}
theorem valueAt_stored_ne (ne : k ≠ k') : valueAt (stored kvs k v) k' = valueAt kvs k' := by
  unfold stored
  split
  · induction kvs with
    | nil => rfl
    | cons p r ih =>
      unfold valueAt at ih ⊢
      rw [List.map_cons, List.find?_cons, List.find?_cons]
      by_cases z : p.1 = k
      · have : ¬ p.1 = k' := fun e => ne (z.symm.trans e)
        simp only [z, if_true, ne, decide_false, this]
        by_cases w : (r.any fun q => q.1 = k) = true
        · exact ih w
        · have : (r.map fun q => if q.1 = k then (q.1, v) else q) = r := by
            rw [show r = r.map id by simp]
            rw [List.map_map]
            refine List.map_congr_left fun q hq => ?_
            have : ¬ q.1 = k := fun e => w (List.any_eq_true.mpr ⟨q, hq, by simpa using e⟩)
            simp [this]
          rw [this]
      · simp only [z, if_false]
        by_cases z' : p.1 = k'
        · simp [z']
        · simp only [z', decide_false]
          by_cases w : (r.any fun q => q.1 = k) = true
          · exact ih w
          · have : (r.map fun q => if q.1 = k then (q.1, v) else q) = r := by
              rw [show r = r.map id by simp]
              rw [List.map_map]
              refine List.map_congr_left fun q hq => ?_
              have : ¬ q.1 = k := fun e => w (List.any_eq_true.mpr ⟨q, hq, by simpa using e⟩)
              simp [this]
            rw [this]
  · exact valueAt_app ne
theorem mem_keys : k ∈ kvs.map (·.1) ↔ ∃ v, valueAt kvs k = some v := by
  rw [← Option.isSome_iff_exists, valueAt_isSome_eq_any, List.any_eq_true, List.mem_map]
  constructor
  · rintro ⟨q, hq, e⟩; exact ⟨q, hq, by simpa using e⟩
  · rintro ⟨q, hq, e⟩; exact ⟨q, hq, by simpa using e⟩
theorem keys_stored : (stored kvs k v).map (·.1) = if k ∈ kvs.map (·.1) then kvs.map (·.1) else kvs.map (·.1) ++ [k] := by
  unfold stored
  have : (kvs.any fun q => q.1 = k) = true ↔ k ∈ kvs.map (·.1) := by rw [mem_keys, ← Option.isSome_iff_exists, valueAt_isSome_eq_any]
  by_cases q : (kvs.any fun q => q.1 = k) = true
  · rw [if_pos q, if_pos (this.mp q), List.map_map]
    refine List.map_congr_left fun p _ => ?_
    show (if p.1 = k then (p.1, v) else p).1 = p.1
    split <;> rfl
  · rw [if_neg q, if_neg (fun z => q (this.mpr z)), List.map_append]; rfl
theorem nodup_stored (h : (kvs.map (·.1)).Nodup) : ((stored kvs k v).map (·.1)).Nodup := by
  rw [keys_stored]
  split
  · exact h
  · rename_i q
    rw [List.nodup_append]
    exact ⟨h, List.nodup_cons.mpr ⟨List.not_mem_nil, List.nodup_nil⟩, fun a ha b hb e => q (by rw [← List.mem_singleton.mp hb, ← e]; exact ha)⟩
theorem nodup_merged : ∀ {more kvs : List (Str × Value)}, (kvs.map (·.1)).Nodup → ((merged kvs more).map (·.1)).Nodup
  | [], kvs, h => h
  | (k, v) :: r, kvs, h => nodup_merged (more := r) (nodup_stored (k := k) (v := v) h)
theorem valueAt_merged : ∀ {more kvs : List (Str × Value)}, (more.map (·.1)).Nodup → valueAt (merged kvs more) k = (valueAt more k).or (valueAt kvs k)
  | [], kvs, _ => rfl
  | (k0, v0) :: r, kvs, h => by
    obtain ⟨n1, n2⟩ := List.nodup_cons.mp h
    have ih := valueAt_merged (more := r) (kvs := stored kvs k0 v0) n2
    show valueAt (merged (stored kvs k0 v0) r) k = _
    rw [ih]
    by_cases e : k0 = k
    · subst e
      have : valueAt r k0 = none := valueAt_none_of_not_mem n1
      rw [this, valueAt_stored, valueAt_head]; rfl
    · rw [valueAt_stored_ne e]
      have : valueAt ((k0, v0) :: r) k = valueAt r k := by unfold valueAt; rw [List.find?_cons]; simp [e]
      rw [this]
theorem hits_all {A : Around} {s : Shared} : ∀ {ka : List (Str × Value)}, (∀ q ∈ ka, ∃ y, valueAt kb q.1 = some y ∧ SeqAt.EqAt A s q.2 y true) → KeqHits A s kb ka true
  | [], _ => .nil
  | (k, v) :: r, h => by
    obtain ⟨y, hy, he⟩ := h (k, v) (List.mem_cons_self ..)
    exact .hit (e := true) (b := true) hy he (hits_all fun q hq => h q (List.mem_cons_of_mem _ hq))
/-- two dicts that are the same map -/
noncomputable def SameMap (A : Around) (s : Shared) (ka kb : List (Str × Value)) : Prop := ∀ k, (valueAt ka k = none ∧ valueAt kb k = none) ∨ ∃ v y, valueAt ka k = some v ∧ valueAt kb k = some y ∧ SeqAt.EqAt A s v y true
theorem same_hits {A : Around} {s : Shared} (na : (ka.map (·.1)).Nodup) (nb : (kb.map (·.1)).Nodup) (H : SameMap A s ka kb) : KeqHits A s kb ka true ∧ ka.length = kb.length := by
  refine ⟨hits_all fun q hq => ?_, ?_⟩
  · obtain ⟨i, hi⟩ := List.getElem?_of_mem hq
    have hv := valueAt_mem na (k := q.1) (v := q.2) hi
    rcases H q.1 with ⟨n, _⟩ | ⟨v, y, e1, e2, e3⟩
    · rw [n] at hv; cases hv
    · rw [e1] at hv; cases hv
      exact ⟨y, e2, e3⟩
  · have e : ∀ k, k ∈ ka.map (·.1) ↔ k ∈ kb.map (·.1) := fun k => by
      rw [mem_keys, mem_keys]
      rcases H k with ⟨n, m⟩ | ⟨v, y, e1, e2, _⟩
      · rw [n, m]
      · rw [e1, e2]; exact ⟨fun _ => ⟨y, rfl⟩, fun _ => ⟨v, rfl⟩⟩
    have := (List.perm_ext_iff_of_nodup na nb).mpr e
    simpa using this.length_eq
end
/-! values that are equal -/
section
open SeqAt
theorem eq_octs {b b' : Array UInt8} {u u' : Tok} {s : Shared} (e : KBw.bInts b = KBw.bInts b') : EqAt A s (.bytes b u) (.bytes b' u') true := fun prog w E Q h => by
  have eb := bInts_inj e
  unfold eqBool
  refine wpAny_holding ?_
  refine wpAny_ite_split (fun _ => wpAny_bind (wpAny_rule (wpAny_pure h))) (fun _ => ?_)
  refine wpAny_bind ?_
  show wpAny _ _ (compareOp .Eq (.bytes b u) (.bytes b' u')) _ _ _
  refine PySem.W.eq_bytes (wpAny_truthy_bool ?_)
  rw [eb, beq_self_eq_true]; exact h
theorem eq_tups {T T' : Addr} {xs ys : List Value} {s : Shared} (h1 : At s.heap T (Tup xs)) (h2 : At s.heap T' (Tup ys)) (hl : xs.length = ys.length) (hu : A.units < cLine) (he : ∀ (j : Nat) v y, xs[j]? = some v → ys[j]? = some y → EqAt A.in1 s v y true) : EqAt A s (.ref T) (.ref T') true := by
  by_cases q : T = T'
  · subst q; exact EqAt.same _
  · have z := RcAt.tuples (A := A) (s := s) (e := fun _ => true) h1.tupl h2.tupl hu (fun j j1 j2 => he j _ _ (by rw [List.getElem?_eq_getElem (by simpa using j1)]; simp) (by rw [List.getElem?_eq_getElem (by simpa using j2)]; simp))
    refine EqAt.of_refs q ?_
    have : ((List.range (min xs.toArray.size ys.toArray.size)).all (fun _ => true) && xs.toArray.size == ys.toArray.size) = true := by simp [hl]
    rw [this] at z
    exact z
theorem eq_lsts {T T' : Addr} {xs ys : List Value} {s : Shared} (h1 : At s.heap T (Lst xs)) (h2 : At s.heap T' (Lst ys)) (hl : xs.length = ys.length) (hu : A.units < cLine) (he : ∀ (j : Nat) v y, xs[j]? = some v → ys[j]? = some y → EqAt A.in1 s v y true) : EqAt A s (.ref T) (.ref T') true := by
  by_cases q : T = T'
  · subst q; exact EqAt.same _
  · have z := RcAt.lists (A := A) (s := s) (e := fun _ => true) h1.list h2.list (by simpa using hl) hu (fun j j1 j2 => he j _ _ (by rw [List.getElem?_eq_getElem (by simpa using j1)]; simp) (by rw [List.getElem?_eq_getElem (by simpa using j2)]; simp))
    refine EqAt.of_refs q ?_
    have : ((List.range xs.toArray.size).all (fun _ => true)) = true := by simp
    rw [this] at z
    exact z
end


-- F49
theorem fval_mem {α : Type} {l : List (Str × α)} (nd : (l.map (·.1)).Nodup) {k : Str} {x : α} : fval l k = some x ↔ (k, x) ∈ l := by
  induction l with
  | nil => simp [fval]
  | cons p r ih =>
    obtain ⟨n1, n2⟩ := List.nodup_cons.mp nd
    have ih := ih n2
    unfold fval at ih ⊢
    rw [List.find?_cons, List.mem_cons]
    by_cases q : p.1 = k
    · subst q
      have : (p.1, x) ∉ r := fun h => n1 (List.mem_map_of_mem (f := (·.1)) h)
      simp only [decide_true, Option.map_some, Option.some.injEq, this, or_false]
      exact ⟨fun e => by rw [← e], fun e => by rw [← e]⟩
    · have : (k, x) ≠ p := fun e => q (by rw [← e])
      simp only [q, decide_false, this, false_or]
      exact ih
theorem fval_perm {α : Type} {l l' : List (Str × α)} (nd : (l.map (·.1)).Nodup) (p : l.Perm l') (k : Str) : fval l k = fval l' k := by
  have nd' : (l'.map (·.1)).Nodup := (p.map (·.1)).nodup_iff.mp nd
  refine Option.ext fun x => ?_
  rw [fval_mem nd, fval_mem nd']
  exact p.mem_iff
theorem NT.no {l : List (Str × Int)} {kvs : List (Str × Value)} (x : NT l kvs) {k : Str} : fval l k = none → valueAt kvs k = none := by
  induction x with
  | nil => intro _; rfl
  | @cons n i u r kvs _ ih =>
    intro h
    unfold fval valueAt at *
    rw [List.find?_cons] at h ⊢
    by_cases q : n = k
    · simp [q] at h
    · simp only [q, decide_false] at h ⊢; exact ih h
theorem DL.keys {f : List (Str × Val)} {kvs : List (Str × Value)} (x : DL f kvs led) : kvs.map (·.1) = f.map (·.1) := by
  induction x with
  | nil => rfl
  | cons _ _ _ ih => rw [List.map_cons, List.map_cons, ih]
open SeqAt in
theorem eq_int {i : Int} {t u : Tok} {s : Shared} : EqAt A s (.int i t) (.int i u) true := by
  have z := EqAt.int_int (A := A) (s := s) i t i u
  rw [beq_self_eq_true] at z; exact z
open SeqAt in
theorem eq_vl {x : Val} {v v' : Value} {l l' : Led} (a1 : VL x v l) (a2 : VL x v' l') (h1 : ∀ p ∈ l, At h p.1 p.2) (h2 : ∀ p ∈ l', At h p.1 p.2) (hu : A.units < cLine) : EqAt A (Mk s h t) v v' true := by
  cases a1 with
  | num u => cases a2 with | num u' => exact eq_int
  | flag => cases a2 with | flag => exact EqAt.same _
  | oct u hb => cases a2 with | oct u' hb' => exact eq_octs (hb.trans hb'.symm)
  | addr b1 b2 b3 b4 =>
    cases a2 with
    | addr c1 c2 c3 c4 =>
      refine eq_tups (h1 _ (List.mem_cons_self ..)) (h2 _ (List.mem_cons_self ..)) rfl hu (fun j v y hv hy => ?_)
      match j, hv, hy with
      | 0, hv, hy => cases hv; cases hy; exact eq_octs (b1.trans c1.symm)
      | 1, hv, hy => cases hv; cases hy; exact eq_int
      | 2, hv, hy => cases hv; cases hy; exact eq_octs (b2.trans c2.symm)
      | 3, hv, hy => cases hv; cases hy; exact eq_int
      | 4, hv, hy => cases hv; cases hy; exact eq_octs (b3.trans c3.symm)
      | 5, hv, hy => cases hv; cases hy; exact eq_octs (b4.trans c4.symm)
      | (j + 6), hv, _ => simp at hv
theorem PLd_at {Us : List Addr} {un : List (Int × List Int)} (e : Us.length = un.length) {j : Nat} {T : Addr} (h : Us[j]? = some T) : ∃ q, un[j]? = some q ∧ (T, PK q) ∈ PLd Us un := by
  have l1 := (List.getElem?_eq_some_iff.mp h).1
  refine ⟨_, List.getElem?_eq_getElem (e ▸ l1), List.mem_of_getElem? (i := j) ?_⟩
  unfold PLd
  rw [List.getElem?_zipWith, h, List.getElem?_eq_getElem (e ▸ l1)]
open SeqAt in
theorem eq_unk {U U0 : Addr} {Us Us0 : List Addr} {un : List (Int × List Int)} (hU : At h U (LN (Us.map .ref))) (hU0 : At h U0 (LN (Us0.map .ref))) (e : Us.length = un.length) (e0 : Us0.length = un.length) (h1 : ∀ p ∈ PLd Us un, At h p.1 p.2) (h2 : ∀ p ∈ PLd Us0 un, At h p.1 p.2) (hu : A.units < cLine) (hu1 : A.in1.units < cLine) :
    EqAt A (Mk s h t) (.ref U) (.ref U0) true := by
  refine eq_lsts hU.ln hU0.ln (by rw [List.length_map, List.length_map, e, e0]) hu (fun j v y hv hy => ?_)
  rw [List.getElem?_map] at hv hy
  obtain ⟨T, hT, rfl⟩ := Option.map_eq_some_iff.mp hv
  obtain ⟨T', hT', rfl⟩ := Option.map_eq_some_iff.mp hy
  obtain ⟨q, q1, q2⟩ := PLd_at e hT
  obtain ⟨q', q3, q4⟩ := PLd_at e0 hT'
  rw [q1] at q3; cases q3
  obtain ⟨o, ho, u, b, w, hd, hb⟩ := h1 _ q2
  obtain ⟨o', ho', u', b', w', hd', hb'⟩ := h2 _ q4
  refine eq_tups ⟨o, ho, hd⟩ ⟨o', ho', hd'⟩ rfl hu1 (fun j v y hv hy => ?_)
  match j, hv, hy with
  | 0, hv, hy => cases hv; cases hy; exact eq_int
  | 1, hv, hy => cases hv; cases hy; exact eq_octs (hb.trans hb'.symm)
  | (j + 2), hv, _ => simp at hv
/-- what read_params makes of told parameters and unknown pairs -/
structure IsRead (c : Ct) (h : Heap) (d : Addr) (f : List (Str × Val)) (un : List (Int × List Int)) : Prop where
  ex : ∃ kvs0 kvs U Us vl, At h d (Dct c (merged (stored (merged [] kvs0) DAM (.bool false)) ((UNK, .ref U) :: kvs))) ∧ NT dfl kvs0 ∧ DL f kvs vl ∧ (∀ p ∈ vl, At h p.1 p.2) ∧ At h U (LN (Us.map .ref)) ∧ Us.length = un.length ∧ ∀ p ∈ PLd Us un, At h p.1 p.2
/-- what is due -/
structure IsDue (c : Ct) (h : Heap) (d : Addr) (f : List (Str × Val)) (un : List (Int × List Int)) : Prop where
  ex : ∃ dn kvs U Us vl, At h d (Dct c (merged (dn ++ [(DAM, .bool false), (UNK, .ref U)]) kvs)) ∧ NT dueL dn ∧ DL f kvs vl ∧ (∀ p ∈ vl, At h p.1 p.2) ∧ At h U (LN (Us.map .ref)) ∧ Us.length = un.length ∧ ∀ p ∈ PLd Us un, At h p.1 p.2
theorem dfl_due (k : Str) : fval dueL k = fval dfl k := fval_perm (by decide +kernel) (by decide +kernel) k
theorem dec_keys : (dfl.map (·.1)).Nodup ∧ ((dueL.map (·.1)) ++ [DAM, UNK]).Nodup ∧ fval dueL DAM = none ∧ fval dueL UNK = none ∧ DAM ≠ UNK := by decide +kernel
theorem valueAt_sapp {a b : List (Str × Value)} {k : Str} : valueAt (a ++ b) k = (valueAt a k).or (valueAt b k) := by
  unfold valueAt
  rw [List.find?_append]
  cases a.find? fun q => q.1 = k <;> rfl
open SeqAt in
theorem ne_law {d e : Addr} {f f' : List (Str × Val)} {un : List (Int × List Int)} (h1 : IsRead c h d f un) (h2 : IsDue c h e f' un) (nd : (f.map (·.1)).Nodup) (pf : f.Perm f') (nu : UNK ∉ f.map (·.1)) (ds : (d == sysModules) = false) (es : (e == sysModules) = false)
    (hu : A.units < cLine) (hu1 : A.in1.units < cLine) (hu2 : A.in1.in1.units < cLine) (K : Q (.bool false) (Mk s h t)) : wpAny (model pw c.w) A (compareOp .NotEq (.ref d) (.ref e)) Q E (Mk s h t) := by
  obtain ⟨kvs0, kvs, U, Us, vl, hd, hnt, dl, hvl, hU, eU, hUs⟩ := h1
  obtain ⟨dn, kvs', U', Us', vl', hd', hnt', dl', hvl', hU', eU', hUs'⟩ := h2
  obtain ⟨k1, k2, k3, k4, k5⟩ := dec_keys
  have nk : (kvs.map (·.1)).Nodup := by rw [dl.keys]; exact nd
  have nd' : (f'.map (·.1)).Nodup := (pf.map (·.1)).nodup_iff.mp nd
  have nk' : (kvs'.map (·.1)).Nodup := by rw [dl'.keys]; exact nd'
  have uk : UNK ∉ kvs.map (·.1) := by rw [dl.keys]; exact nu
  have uk' : UNK ∉ kvs'.map (·.1) := by rw [dl'.keys]; exact fun q => nu ((pf.map (·.1)).mem_iff.mpr q)
  have nkU : (((UNK, Value.ref U) :: kvs).map (·.1)).Nodup := List.nodup_cons.mpr ⟨uk, nk⟩
  have n0 : (kvs0.map (·.1)).Nodup := by rw [hnt.keys]; exact k1
  have nn : ((dn ++ [(DAM, Value.bool false), (UNK, .ref U')]).map (·.1)).Nodup := by rw [List.map_append, hnt'.keys]; exact k2
  have na : ((merged (stored (merged [] kvs0) DAM (.bool false)) ((UNK, .ref U) :: kvs)).map (·.1)).Nodup := nodup_merged (nodup_stored (nodup_merged List.nodup_nil))
  have nb : ((merged (dn ++ [(DAM, .bool false), (UNK, .ref U')]) kvs').map (·.1)).Nodup := nodup_merged nn
  have sm : SameMap A.in1 (Mk s h t) (merged (stored (merged [] kvs0) DAM (.bool false)) ((UNK, .ref U) :: kvs)) (merged (dn ++ [(DAM, .bool false), (UNK, .ref U')]) kvs') := by
    intro k
    rw [valueAt_merged nkU, valueAt_merged nk', valueAt_sapp]
    by_cases q : UNK = k
    · subst q
      rw [valueAt_head, valueAt_none_of_not_mem uk', hnt'.no k4]
      refine .inr ⟨_, .ref U', rfl, ?_, eq_unk hU hU' eU eU' hUs hUs' hu1 hu2⟩
      unfold valueAt
      rw [List.find?_cons, List.find?_cons]
      simp [k5]
    have e1 : valueAt ((UNK, Value.ref U) :: kvs) k = valueAt kvs k := by unfold valueAt; rw [List.find?_cons]; simp [q]
    rw [e1]
    have fe := fval_perm nd pf k
    rcases dl.look k with ⟨g1, g2⟩ | ⟨x, v, l, g1, g2, g3, g4⟩
    · rcases dl'.look k with ⟨g1', g2'⟩ | ⟨x', v', l', g1', _⟩
      · rw [g2, g2', Option.none_or, Option.none_or]
        by_cases q2 : DAM = k
        · subst q2
          rw [valueAt_stored, hnt'.no k3, Option.none_or]
          refine .inr ⟨_, .bool false, rfl, valueAt_head, EqAt.same _⟩
        · rw [valueAt_stored_ne q2, merged_nil_of_nodup _ n0]
          have tl : valueAt [(DAM, Value.bool false), (UNK, .ref U')] k = none := by
            unfold valueAt
            rw [List.find?_cons, List.find?_cons]
            simp [q, q2]
          rw [tl, Option.or_none]
          cases z : fval dfl k with
          | none => exact .inl ⟨hnt.no z, hnt'.no (by rw [dfl_due]; exact z)⟩
          | some j =>
            obtain ⟨u, a1⟩ := hnt.at z
            obtain ⟨u', a2⟩ := hnt'.at (k := k) (j := j) (by rw [dfl_due]; exact z)
            exact .inr ⟨_, _, a1, a2, eq_int⟩
      · rw [fe, g1'] at g1; cases g1
    · rcases dl'.look k with ⟨g1', _⟩ | ⟨x', v', l', g1', g2', g3', g4'⟩
      · rw [fe, g1'] at g1; cases g1
      · rw [fe, g1'] at g1; cases g1
        rw [g2, g2']
        exact .inr ⟨v, v', rfl, rfl, eq_vl g3 g3' (fun p hp => hvl p (g4 p hp)) (fun p hp => hvl' p (g4' p hp)) hu1⟩
  obtain ⟨hits, len⟩ := same_hits na nb sm
  refine keq_ne (s := Mk s h t) (r := true) ds es hd.dct hd'.dct hu (fun _ => hits) ?_
  rw [len, beq_self_eq_true]
  exact K


-- F50
/-! the plain law: what is written is read -/
theorem num_snoc (l : List Int) (x : Int) : num (l ++ [x]) = num l * 256 + x := by unfold num; rw [List.foldl_append]; rfl
theorem num_octs : ∀ (k : Nat) (n : Int), 0 ≤ n → n < 256 ^ k → num (octs k n) = n
  | 0, n, h0, h1 => by
    have h1 : n < 1 := h1
    obtain rfl : n = 0 := by (first | lia | omega)
    rfl
  | k + 1, n, h0, h1 => by
    rw [octs, num_snoc, num_octs k (n / 256) (by (first | lia | omega)) (by rw [Int.pow_succ] at h1; (first | lia | omega))]
    (first | lia | omega)
theorem vint_shape {k : Int} (k0 : 0 ≤ k) (k1 : k < 2 ^ 62) : ∃ x r, vint k = x :: r ∧ gsz x = vsz k ∧ (vint k).length = (vsz k).toNat ∧ num (vint k) % 2 ^ (8 * vsz k - 2).toNat = k := by
  have fin : ∀ (n : Nat) (v : Int), vsz k = n + 1 → vix k = v → 0 ≤ v ∧ v ≤ 3 → k < 64 * 256 ^ n → (2 : Int) ^ (8 * ((n : Int) + 1) - 2).toNat = 64 * 256 ^ n → (∀ d, 0 ≤ d → d < 64 → gsz (d + 64 * v) = n + 1) → ∃ x r, vint k = x :: r ∧ gsz x = vsz k ∧ (vint k).length = (vsz k).toNat ∧ num (vint k) % 2 ^ (8 * vsz k - 2).toNat = k := by
    intro n v e2 e3 ⟨v0, v3⟩ hk e5 hg
    have p : (0 : Int) < 256 ^ n := Int.pow_pos (by decide)
    obtain ⟨a1, a2, a3, a4⟩ := octs_head (n := n) (v := v) k0 hk v0 v3
    have ev : vint k = octs (n + 1) (v * (64 * 256 ^ n) + k) := by
      unfold vint
      rw [e2, e3, e5, show ((n : Int) + 1).toNat = n + 1 by (first | lia | omega)]
    have hv : v * (64 * 256 ^ n) ≤ 3 * (64 * 256 ^ n) := Int.mul_le_mul_of_nonneg_right v3 (by (first | lia | omega))
    have hv0 : 0 ≤ v * (64 * 256 ^ n) := Int.mul_nonneg v0 (by (first | lia | omega))
    refine ⟨_, _, ev.trans a1, ?_, by rw [ev, octs_length, e2]; (first | lia | omega), ?_⟩
    · rw [e2]; exact hg _ a3 a4
    · rw [ev, e2, e5, num_octs (n + 1) _ (by (first | lia | omega)) (by rw [Int.pow_succ]; (first | lia | omega)), Int.add_comm, Int.add_mul_emod_self_right, Int.emod_eq_of_lt k0 hk]
  unfold vsz vix at *
  by_cases q1 : k < 64
  · exact fin 0 0 (by simp [q1]) (by simp [q1]) (by decide) (by simpa using q1) (by decide) (fun d d0 d1 => by unfold gsz; split <;> (first | lia | omega))
  by_cases q2 : k < 16384
  · exact fin 1 1 (by simp [q1, q2]) (by simp [q1, q2]) (by decide) (by simpa using q2) (by decide) (fun d d0 d1 => by unfold gsz; rw [if_neg (by (first | lia | omega)), if_pos (by (first | lia | omega))]; rfl)
  by_cases q3 : k < 1073741824
  · exact fin 3 2 (by simp [q1, q2, q3]) (by simp [q1, q2, q3]) (by decide) (by simpa using q3) (by decide) (fun d d0 d1 => by unfold gsz; rw [if_neg (by (first | lia | omega)), if_neg (by (first | lia | omega)), if_pos (by (first | lia | omega))]; rfl)
  · exact fin 7 3 (by simp [q1, q2, q3]) (by simp [q1, q2, q3]) (by decide) (by simpa using k1) (by decide) (fun d d0 d1 => by unfold gsz; rw [if_neg (by (first | lia | omega)), if_neg (by (first | lia | omega)), if_neg (by (first | lia | omega))]; rfl)
theorem gvar_at {k : Int} (k0 : 0 ≤ k) (k1 : k < 2 ^ 62) (pre post : List Int) : gvar (pre ++ vint k ++ post) (pre.length : Nat) = some (k, (((pre ++ vint k).length : Nat) : Int)) := by
  obtain ⟨x, r, e, gx, len, md⟩ := vint_shape k0 k1
  have sz : (vsz k).toNat = vsz k := by rcases vsz_is k with z | z | z | z <;> rw [z] <;> rfl
  have g0 : (pre ++ vint k ++ post).getD pre.length 0 = x := by
    rw [e]; simp [List.getD]
  have d0 : (pre ++ vint k ++ post).drop pre.length = vint k ++ post := by rw [List.append_assoc, List.drop_left]
  have l0 : ((pre ++ vint k ++ post).length : Int) = pre.length + vsz k + post.length := by
    rw [List.length_append, List.length_append, len]; (first | lia | omega)
  have vp : 0 < vsz k := by rcases vsz_is k with z | z | z | z <;> (first | lia | omega)
  unfold gvar
  rw [show (((pre.length : Nat) : Int)).toNat = pre.length from rfl, g0, gx, d0, l0, if_neg (by (first | lia | omega)), if_neg (by (first | lia | omega)), ← len, List.take_left, md]
  congr 2
  rw [List.length_append, len]; (first | lia | omega)
theorem rowB_parts (k : Int) (l pre post : List Int) : pre ++ rowB k l ++ post = pre ++ vint k ++ (vint l.length ++ l ++ post) ∧ pre ++ rowB k l ++ post = (pre ++ vint k) ++ vint l.length ++ (l ++ post) := by
  constructor <;> simp [rowB, List.append_assoc]
noncomputable def Items (items : List (Int × List Int)) : Prop := ∀ q ∈ items, (0 ≤ q.1 ∧ q.1 < 2 ^ 62) ∧ (q.2.length : Int) < 2 ^ 62
noncomputable def encI (items : List (Int × List Int)) : List Int := items.flatMap fun q => rowB q.1 q.2
theorem rowB_pos {k : Int} (k0 : 0 ≤ k) (k1 : k < 2 ^ 62) (l : List Int) : 0 < (rowB k l).length := by
  obtain ⟨x, r, e, _⟩ := vint_shape k0 k1
  unfold rowB; rw [e]; simp
theorem pairs_all : ∀ (items : List (Int × List Int)) (pre : List Int) (n : Nat), Items items → items.length ≤ n → pairsF (pre ++ encI items) n (pre.length : Nat) = some items
  | [], pre, 0, _, _ => rfl
  | [], pre, n + 1, _, _ => by
    unfold pairsF
    rw [if_neg (by simp [encI])]
  | q :: r, pre, 0, _, h => by simp at h
  | q :: r, pre, n + 1, hI, h => by
    obtain ⟨⟨q0, q1⟩, q2⟩ := hI q (List.mem_cons_self ..)
    have rp := rowB_pos q0 q1 q.2
    have e : pre ++ encI (q :: r) = pre ++ rowB q.1 q.2 ++ encI r := by unfold encI; rw [List.flatMap_cons, List.append_assoc]
    rw [e]
    obtain ⟨p1, p2⟩ := rowB_parts q.1 q.2 pre (encI r)
    have g1 := gvar_at q0 q1 pre (vint q.2.length ++ q.2 ++ encI r)
    rw [← p1] at g1
    have g2 := gvar_at (k := (q.2.length : Int)) (by (first | lia | omega)) q2 (pre ++ vint q.1) (q.2 ++ encI r)
    rw [← p2] at g2
    have ih := pairs_all r (pre ++ rowB q.1 q.2) n (fun x hx => hI x (List.mem_cons_of_mem _ hx)) (by simpa using h)
    unfold pairsF
    rw [if_pos (by rw [List.length_append, List.length_append]; (first | lia | omega)), g1]
    dsimp only
    rw [g2]
    dsimp only
    have le : (pre ++ rowB q.1 q.2).length = (pre ++ vint q.1 ++ vint q.2.length).length + q.2.length := by simp [rowB, List.length_append]; (first | lia | omega)
    have de : (pre ++ rowB q.1 q.2 ++ encI r).drop (pre ++ vint q.1 ++ vint q.2.length).length = q.2 ++ encI r := by rw [p2, List.drop_left]
    have la : (pre ++ rowB q.1 q.2 ++ encI r).length = (pre ++ rowB q.1 q.2).length + (encI r).length := List.length_append
    rw [if_pos (by (first | lia | omega)), show ((((pre ++ vint q.1 ++ vint q.2.length).length : Nat) : Int)).toNat = (pre ++ vint q.1 ++ vint q.2.length).length from rfl, de, show ((q.2.length : Nat) : Int).toNat = q.2.length from rfl, List.take_left,
      show (((pre ++ vint q.1 ++ vint q.2.length).length : Nat) : Int) + (q.2.length : Nat) = ((pre ++ rowB q.1 q.2).length : Nat) by rw [le]; (first | lia | omega), ih]
    rfl
theorem rdPairs_enc {items : List (Int × List Int)} (hI : Items items) : rdPairs (encI items) = some items := by
  have hl : ∀ {l : List (Int × List Int)}, Items l → l.length ≤ (encI l).length := fun {l} => by
    induction l with
    | nil => intro _; exact Nat.zero_le _
    | cons q r ih =>
      intro h
      have := ih fun x hx => h x (List.mem_cons_of_mem _ hx)
      have rp := rowB_pos (h q (List.mem_cons_self ..)).1.1 (h q (List.mem_cons_self ..)).1.2 q.2
      unfold encI at this ⊢
      rw [List.flatMap_cons, List.length_append, List.length_cons]
      (first | lia | omega)
  exact pairs_all items [] _ hI (hl hI)


-- F51
theorem readAddr_put {l3 l4 : List Int} (h3 : 1 ≤ l3.length ∧ l3.length ≤ 20) (h4 : l4.length = 16) : readAddr (putAddr (fourB, 4433, sixtB, 258, l3, l4)) = some (fourB, 4433, sixtB, 258, l3, l4) := by
  have e : putAddr (fourB, 4433, sixtB, 258, l3, l4) = [102, 111, 117, 114, 17, 81, 115, 105, 120, 116, 101, 101, 110, 32, 111, 99, 116, 101, 116, 115, 46, 46, 1, 2, (l3.length : Int)] ++ (l3 ++ l4) := by simp [putAddr, b16, fourB, sixtB]
  rw [e]
  have ll : (l3 ++ l4).length = l3.length + 16 := by rw [List.length_append, h4]
  generalize hx : l3 ++ l4 = xs at ll
  have len : ([102, 111, 117, 114, 17, 81, 115, 105, 120, 116, 101, 101, 110, 32, 111, 99, 116, 101, 116, 115, 46, 46, 1, 2, (l3.length : Int)] ++ xs).length = 25 + (l3.length + 16) := by rw [List.length_append, ll]; rfl
  unfold readAddr
  rw [if_neg (by (first | lia | omega))]
  have nz : num (List.take 1 (List.drop 24 ([102, 111, 117, 114, 17, 81, 115, 105, 120, 116, 101, 101, 110, 32, 111, 99, 116, 101, 116, 115, 46, 46, 1, 2, (l3.length : Int)] ++ xs))) = (l3.length : Int) := by
    show (0 : Int) * 256 + (l3.length : Int) = _
    (first | lia | omega)
  dsimp only
  rw [nz, if_neg (by (first | lia | omega)), if_pos (by (first | lia | omega))]
  have d1 : ∀ n, List.drop (25 + n) ([102, 111, 117, 114, 17, 81, 115, 105, 120, 116, 101, 101, 110, 32, 111, 99, 116, 101, 116, 115, 46, 46, 1, 2, (l3.length : Int)] ++ xs) = xs.drop n := fun n => by
    rw [List.drop_append]
    simp [show 25 + n - 25 = n by (first | lia | omega)]
  have t1 : (List.drop 25 ([102, 111, 117, 114, 17, 81, 115, 105, 120, 116, 101, 101, 110, 32, 111, 99, 116, 101, 116, 115, 46, 46, 1, 2, (l3.length : Int)] ++ xs)).take l3.length = l3 := by
    rw [show (25 : Nat) = 25 + 0 from rfl, d1 0, ← hx, List.drop_zero, List.take_left]
  have t2 : (List.drop (25 + l3.length) ([102, 111, 117, 114, 17, 81, 115, 105, 120, 116, 101, 101, 110, 32, 111, 99, 116, 101, 116, 115, 46, 46, 1, 2, (l3.length : Int)] ++ xs)).take 16 = l4 := by
    rw [d1, ← hx, List.drop_left, ← h4, List.take_length]
  rw [show ((l3.length : Int)).toNat = l3.length from rfl, t1, t2]
  rfl
theorem knd_num : ∀ i ∈ numIx, (pkind i == Str.ofString "number") = true := by decide +kernel
theorem knd_oct : ∀ i ∈ octIx, ((pkind i == Str.ofString "number") = false ∧ (pkind i == Str.ofString "flag") = false ∧ (pkind i == Str.ofString "address") = false) ∧ (i = 2 ∨ (i ≠ 2 ∧ (pkind i == Str.ofString "token") = false)) := by decide +kernel
theorem knd_tok : (pkind 2 == Str.ofString "id") = false := by decide +kernel
theorem knd_flag : (pkind 12 == Str.ofString "number") = false ∧ (pkind 12 == Str.ofString "flag") = true ∧ (pkind 12 == Str.ofString "address") = false := by decide +kernel
theorem knd_addr : (pkind 13 == Str.ofString "number") = false ∧ (pkind 13 == Str.ofString "flag") = false ∧ (pkind 13 == Str.ofString "address") = true := by decide +kernel
theorem OkV.fit {q : Nat × Val} (h : OkV q) : Fit (pkind q.1) q.2 := by
  obtain ⟨i, x⟩ := q
  cases x with
  | num k => exact ⟨knd_num i h.1, h.2.1⟩
  | flag b => obtain ⟨rfl, rfl⟩ := h; exact ⟨knd_flag.1, knd_flag.2.1, rfl⟩
  | oct l => obtain ⟨⟨a1, a2, a3⟩, _⟩ := knd_oct i h.1; exact ⟨a1, a2, a3, Nat.le_trans h.2.2 (by decide)⟩
  | addr y =>
    obtain ⟨l1, i1, l2, i2, l3, l4⟩ := y
    obtain ⟨rfl, rfl, rfl, rfl, rfl, h3, h4⟩ := h
    exact ⟨knd_addr.1, knd_addr.2.1, knd_addr.2.2, by decide, by decide, by (first | lia | omega), by (first | lia | omega), by decide, by decide⟩
theorem OkV.read {q : Nat × Val} (h : OkV q) : readVal (pname q.1) (pkind q.1) (encV q.2) = some q.2 := by
  obtain ⟨i, x⟩ := q
  unfold readVal
  cases x with
  | num k =>
    obtain ⟨h1, ⟨h2, h3⟩, h4⟩ := h
    rw [if_pos (knd_num i h1)]
    have g := gvar_at h2 h3 [] []
    rw [List.nil_append, List.append_nil] at g
    have e : readNum (pname i) (encV (.num k)) = some k := by
      unfold readNum encV
      rw [show gvar (vint k) 0 = _ from g]
      dsimp only
      rw [if_pos rfl, if_pos h4]
    rw [e]; rfl
  | flag b =>
    obtain ⟨rfl, rfl⟩ := h
    rw [if_neg (by rw [knd_flag.1]; decide), if_neg (by rw [knd_flag.2.2]; decide), if_pos knd_flag.2.1]
    rfl
  | oct l =>
    obtain ⟨⟨a1, a2, a3⟩, a4⟩ := knd_oct i h.1
    have a1' : ¬ (pkind (i, Val.oct l).1 == Str.ofString "number") = true := by rw [show (pkind (i, Val.oct l).1 == Str.ofString "number") = false from a1]; decide
    have a2' : ¬ (pkind (i, Val.oct l).1 == Str.ofString "flag") = true := by rw [show (pkind (i, Val.oct l).1 == Str.ofString "flag") = false from a2]; decide
    have a3' : ¬ (pkind (i, Val.oct l).1 == Str.ofString "address") = true := by rw [show (pkind (i, Val.oct l).1 == Str.ofString "address") = false from a3]; decide
    rw [if_neg a1', if_neg a3', if_neg a2', if_neg]
    · rfl
    · show ¬ ((pkind i == Str.ofString "token" && ((l.length : Int) != 16) || pkind i == Str.ofString "id" && decide ((l.length : Int) > 20)) = true)
      have z := h.2.2
      rcases a4 with rfl | ⟨_, a5⟩
      · rw [knd_tok, h.2.1 rfl]; simp
      · rw [a5, decide_eq_false (by (first | lia | omega))]; simp
  | addr y =>
    obtain ⟨l1, i1, l2, i2, l3, l4⟩ := y
    obtain ⟨rfl, rfl, rfl, rfl, rfl, h3, h4⟩ := h
    rw [if_neg (by rw [knd_addr.1]; decide), if_pos knd_addr.2.2]
    show (readAddr (putAddr (fourB, 4433, sixtB, 258, l3, l4))).map Val.addr = some (Val.addr (fourB, 4433, sixtB, 258, l3, l4))
    rw [readAddr_put h3 h4]; rfl
noncomputable def itemOf (q : Nat × Val) : Int × List Int := ((q.1 : Int), encV q.2)
noncomputable def named (ix : List (Nat × Val)) : List (Str × Val) := ix.map fun q => (pname q.1, q.2)
theorem sto_new {f : List (Str × Val)} {k : Str} {x : Val} (h : k ∉ f.map (·.1)) : sto f k x = f ++ [(k, x)] := by
  unfold sto
  rw [if_neg]
  intro z
  obtain ⟨q, hq, e⟩ := List.any_eq_true.mp z
  exact h (by have : q.1 = k := by simpa using e
              rw [← this]; exact List.mem_map_of_mem hq)
theorem rpGo_cons {role : Str} {q : Int × List Int} {r u : List (Int × List Int)} {f : List (Str × Val)} {m : List Int} : rpGo role (q :: r) u f m = if q.1 ∈ m then none else if 0 ≤ q.1 ∧ q.1 < 17 then (if (role == Str.ofString "client" && ofServer.any fun y => y == pname q.1.toNat) = true then none else match readVal (pname q.1.toNat) (pkind q.1.toNat) q.2 with | none => none | some x => rpGo role r u (sto f (pname q.1.toNat) x) (m ++ [q.1])) else rpGo role r (u ++ [q]) f (m ++ [q.1]) := by
  conv => lhs; unfold rpGo
  all_goals rfl
theorem rp_known {role : Str} (hr : (role == Str.ofString "client") = false) : ∀ {ix : List (Nat × Val)} {u : List (Int × List Int)} {f : List (Str × Val)} {m : List Int} {more : List (Int × List Int)}, (∀ q ∈ ix, OkV q) → (ix.map (·.1)).Nodup →
    (∀ q ∈ ix, ((q.1 : Nat) : Int) ∉ m) → (∀ q ∈ ix, pname q.1 ∉ f.map (·.1)) → rpGo role (ix.map itemOf ++ more) u f m = rpGo role more u (f ++ named ix) (m ++ ix.map fun q => ((q.1 : Nat) : Int))
  | [], u, f, m, more, _, _, _, _ => by simp [named]
  | q :: r, u, f, m, more, hok, nd, hm, hf => by
    have h0 := hok q (List.mem_cons_self ..)
    have lt := h0.lt
    obtain ⟨n1, n2⟩ := List.nodup_cons.mp nd
    have s0 := sto_new (x := q.2) (hf q (List.mem_cons_self ..))
    rw [List.map_cons, List.cons_append]
    rw [rpGo_cons, if_neg (show (itemOf q).1 ∉ m from hm q (List.mem_cons_self ..)), if_pos (show 0 ≤ (itemOf q).1 ∧ (itemOf q).1 < 17 from ⟨Int.natCast_nonneg _, by show ((q.1 : Nat) : Int) < 17; (first | lia | omega)⟩), hr, Bool.false_and, if_neg (by decide)]
    show (match readVal (pname q.1) (pkind q.1) (encV q.2) with | none => none | some x => rpGo role (r.map itemOf ++ more) u (sto f (pname q.1) x) (m ++ [((q.1 : Nat) : Int)])) = _
    rw [h0.read]
    dsimp only
    rw [s0, rp_known hr (fun x hx => hok x (List.mem_cons_of_mem _ hx)) n2 (fun x hx z => ?_) (fun x hx z => ?_)]
    · simp [named, List.append_assoc]
    · rcases List.mem_append.mp z with z | z
      · exact hm x (List.mem_cons_of_mem _ hx) z
      · have : x.1 = q.1 := by have := List.mem_singleton.mp z; (first | lia | omega)
        exact n1 (by show q.1 ∈ _; rw [← this]; exact List.mem_map_of_mem hx)
    · rw [List.map_append] at z
      rcases List.mem_append.mp z with z | z
      · exact hf x (List.mem_cons_of_mem _ hx) z
      · have e : pname x.1 = pname q.1 := List.mem_singleton.mp z
        have : x.1 = q.1 := pname_inj _ (hok x (List.mem_cons_of_mem _ hx)).lt _ lt e
        exact n1 (by show q.1 ∈ _; rw [← this]; exact List.mem_map_of_mem hx)
theorem rp_un {role : Str} : ∀ {un : List (Int × List Int)} {u : List (Int × List Int)} {f : List (Str × Val)} {m : List Int} {more : List (Int × List Int)}, (∀ q ∈ un, 17 ≤ q.1 ∧ q.1 ∉ m) → (un.map (·.1)).Nodup →
    rpGo role (un ++ more) u f m = rpGo role more (u ++ un) f (m ++ un.map (·.1))
  | [], u, f, m, more, _, _ => by simp
  | q :: r, u, f, m, more, hu, nd => by
    obtain ⟨n1, n2⟩ := List.nodup_cons.mp nd
    obtain ⟨h1, h2⟩ := hu q (List.mem_cons_self ..)
    rw [List.cons_append]
    rw [rpGo_cons, if_neg h2, if_neg (by (first | lia | omega)), rp_un (fun x hx => ⟨(hu x (List.mem_cons_of_mem _ hx)).1, fun z => ?_⟩) n2]
    · simp [List.append_assoc]
    · rcases List.mem_append.mp z with z | z
      · exact (hu x (List.mem_cons_of_mem _ hx)).2 z
      · exact n1 (by show q.1 ∈ _; rw [← show x.1 = q.1 from List.mem_singleton.mp z]; exact List.mem_map_of_mem hx)
/-- the unknown pairs of the law -/
structure UnOk (un : List (Int × List Int)) : Prop where
  hi : ∀ q ∈ un, 17 ≤ q.1 ∧ q.1 < 2 ^ 62 ∧ q.2.length ≤ 100
  nd : (un.map (·.1)).Nodup
  len : un.length ≤ 2
structure IxOk (ix : List (Nat × Val)) : Prop where
  ok : ∀ q ∈ ix, OkV q
  nd : (ix.map (·.1)).Nodup
theorem IxOk.perm {ix iy : List (Nat × Val)} (h : IxOk ix) (p : iy.Perm ix) : IxOk iy := ⟨fun q hq => h.ok q (p.mem_iff.mp hq), (p.map (·.1)).nodup_iff.mpr h.nd⟩
theorem items_ok {ix : List (Nat × Val)} {un : List (Int × List Int)} (h : IxOk ix) (hu : UnOk un) : Items (ix.map itemOf ++ un) := fun q hq => by
  rcases List.mem_append.mp hq with hq | hq
  · obtain ⟨r, hr, rfl⟩ := List.mem_map.mp hq
    have := (h.ok r hr).lt
    have := encV_len (h.ok r hr).fit
    exact ⟨⟨Int.natCast_nonneg _, by show ((r.1 : Nat) : Int) < 2 ^ 62; (first | lia | omega)⟩, by show ((encV r.2).length : Int) < 2 ^ 62; (first | lia | omega)⟩
  · have := hu.hi q hq
    exact ⟨⟨by (first | lia | omega), this.2.1⟩, by (first | lia | omega)⟩
theorem un_out {ix : List (Nat × Val)} {un : List (Int × List Int)} (h : IxOk ix) (hu : UnOk un) : ∀ q ∈ un, 17 ≤ q.1 ∧ q.1 ∉ ([] : List Int) ++ ix.map fun q => ((q.1 : Nat) : Int) := fun q hq => by
  refine ⟨(hu.hi q hq).1, fun z => ?_⟩
  rw [List.nil_append] at z
  obtain ⟨r, hr, e⟩ := List.mem_map.mp z
  have := (h.ok r hr).lt
  have := (hu.hi q hq).1
  (first | lia | omega)
theorem srv : (Str.ofString "server" == Str.ofString "client") = false := by decide
/-- round trip -/
theorem read_all {ix : List (Nat × Val)} {un : List (Int × List Int)} (h : IxOk ix) (hu : UnOk un) : rdParams (Str.ofString "server") (encI (ix.map itemOf ++ un)) = some (un, named ix) := by
  unfold rdParams
  rw [rdPairs_enc (items_ok h hu), Option.bind_some, rp_known srv h.ok h.nd (fun _ _ => List.not_mem_nil) (fun _ _ => List.not_mem_nil)]
  have z := rp_un (role := Str.ofString "server") (u := []) (f := [] ++ named ix) (more := []) (un_out h hu) hu.nd
  rw [List.append_nil] at z
  rw [z]
  rfl
/-- a parameter told twice -/
theorem read_twice {ix : List (Nat × Val)} {un : List (Int × List Int)} (h : IxOk ix) (hu : UnOk un) {q : Int × List Int} (hq : q ∈ ix.map itemOf ++ un) : rdParams (Str.ofString "server") (encI (ix.map itemOf ++ un ++ [q])) = none := by
  unfold rdParams
  have io : Items (ix.map itemOf ++ un ++ [q]) := fun x hx => by
    rcases List.mem_append.mp hx with hx | hx
    · exact items_ok h hu x hx
    · rw [List.mem_singleton.mp hx]; exact items_ok h hu q hq
  rw [rdPairs_enc io, Option.bind_some, List.append_assoc, rp_known srv h.ok h.nd (fun _ _ => List.not_mem_nil) (fun _ _ => List.not_mem_nil), rp_un (un_out h hu) hu.nd]
  rw [rpGo_cons, if_pos]
  rcases List.mem_append.mp hq with hq | hq
  · obtain ⟨r, hr, rfl⟩ := List.mem_map.mp hq
    exact List.mem_append_left _ (List.mem_append_right _ (List.mem_map_of_mem (f := fun q : Nat × Val => ((q.1 : Nat) : Int)) hr))
  · exact List.mem_append_right _ (List.mem_map_of_mem hq)


-- F52
theorem bent_none : ∀ l ∈ bentL, rdParams (Str.ofString "server") l = none := by decide +kernel
theorem cli_flag : rdParams (Str.ofString "client") (rowB 12 [120]) = none := by decide +kernel
noncomputable def menuL : List (Int × List Int) := [(0, [105, 100]), (2, [3, 3, 3, 3, 3, 3, 3, 3, 3, 3, 3, 3, 3, 3, 3, 3]), (16, [])]
theorem cli_menu : ∀ q ∈ menuL, rdParams (Str.ofString "client") (rowB q.1 q.2) = none := by decide +kernel
theorem cli_empty : rdParams (Str.ofString "client") [] = some ([], []) := by rfl
theorem nodup_of_fst {α β : Type} {l : List (α × β)} (h : (l.map (·.1)).Nodup) : l.Nodup := by
  induction l with
  | nil => exact List.nodup_nil
  | cons p r ih =>
    obtain ⟨n1, n2⟩ := List.nodup_cons.mp h
    exact List.nodup_cons.mpr ⟨fun q => n1 (List.mem_map_of_mem q), ih n2⟩
theorem named_nodup {ix : List (Nat × Val)} (h : IxOk ix) : ((named ix).map (·.1)).Nodup := by
  have : (named ix).map (·.1) = (ix.map (·.1)).map pname := by simp [named]
  rw [this, List.Nodup, List.pairwise_map]
  refine h.nd.imp_of_mem fun {a b} ha hb ne e => ne ?_
  obtain ⟨x, hx, rfl⟩ := List.mem_map.mp ha
  obtain ⟨y, hy, rfl⟩ := List.mem_map.mp hb
  exact pname_inj _ (h.ok x hx).lt _ (h.ok y hy).lt e
theorem fval_named {ix : List (Nat × Val)} (h : IxOk ix) {i : Nat} (hi : i < 17) {x : Val} : fval (named ix) (pname i) = some x ↔ (i, x) ∈ ix := by
  rw [fval_mem (named_nodup h)]
  constructor
  · intro z
    obtain ⟨q, hq, e⟩ := List.mem_map.mp z
    have e1 : pname q.1 = pname i := congrArg Prod.fst e
    have e2 : q.2 = x := congrArg Prod.snd e
    have := pname_inj _ (h.ok q hq).lt _ hi e1
    rw [← this, ← e2]; exact hq
  · intro z; exact List.mem_map_of_mem (f := fun q : Nat × Val => (pname q.1, q.2)) z
theorem enc_told {ix : List (Nat × Val)} (h : IxOk ix) (un : List (Int × List Int)) : ∃ iy : List (Nat × Val), iy.Perm ix ∧ encAll (named ix) un = encI (iy.map itemOf ++ un) := by
  refine ⟨(List.range 17).filterMap fun i => (fval (named ix) (pname i)).map fun x => (i, x), ?_, ?_⟩
  · have nd : ((List.range 17).filterMap fun i => (fval (named ix) (pname i)).map fun x => (i, x)).Nodup := by
      have hr : (List.range 17).Nodup := List.nodup_range
      rw [List.Nodup, List.pairwise_filterMap]
      refine hr.imp fun {a b} ne p hp q hq e => ne ?_
      obtain ⟨x, _, rfl⟩ := Option.map_eq_some_iff.mp hp
      obtain ⟨y, _, rfl⟩ := Option.map_eq_some_iff.mp hq
      exact congrArg Prod.fst e
    refine (List.perm_ext_iff_of_nodup nd (nodup_of_fst h.nd)).mpr fun q => ?_
    rw [List.mem_filterMap]
    constructor
    · rintro ⟨i, hi, e⟩
      obtain ⟨x, hx, rfl⟩ := Option.map_eq_some_iff.mp e
      exact (fval_named h (List.mem_range.mp hi)).mp hx
    · intro hq
      refine ⟨q.1, List.mem_range.mpr (h.ok q hq).lt, ?_⟩
      rw [(fval_named h (h.ok q hq).lt).mpr hq]; rfl
  · have key : ∀ l : List Nat, l.flatMap (encRow (named ix)) = encI ((l.filterMap fun i => (fval (named ix) (pname i)).map fun x => (i, x)).map itemOf) := fun l => by
      induction l with
      | nil => rfl
      | cons i r ih =>
        rw [List.flatMap_cons, List.filterMap_cons, ih]
        unfold encRow
        cases fval (named ix) (pname i) with
        | none => rfl
        | some x => rfl
    have ea : ∀ a b, encI (a ++ b) = encI a ++ encI b := fun a b => by unfold encI; rw [List.flatMap_append]
    rw [ea]
    show encTo (named ix) 17 ++ encUn un = _
    unfold encTo
    rw [key]; rfl
theorem encI_app (a b : List (Int × List Int)) : encI (a ++ b) = encI a ++ encI b := by unfold encI; rw [List.flatMap_append]
theorem unk_named : ∀ i, i < 17 → pname i ≠ UNK := by decide +kernel
theorem named_unk {ix : List (Nat × Val)} (h : IxOk ix) : UNK ∉ (named ix).map (·.1) := fun z => by
  obtain ⟨q, hq, e⟩ := List.mem_map.mp z
  obtain ⟨r, hr, rfl⟩ := List.mem_map.mp hq
  exact unk_named _ (h.ok r hr).lt e
theorem named_fit {ix : List (Nat × Val)} (h : IxOk ix) : ∀ j, j < 17 → ∀ x, fval (named ix) (pname j) = some x → Fit (pkind j) x := fun j hj x e => (h.ok _ ((fval_named h hj).mp e)).fit
theorem named_perm {ix iy : List (Nat × Val)} (p : iy.Perm ix) : (named iy).Perm (named ix) := p.map _
theorem Told.ixok {ix : List (Nat × Val)} {kvs : List (Str × Value)} {rs : List Value} {vl : Led} (T : Told ix kvs rs vl) : IxOk ix := ⟨T.ok, T.nd⟩
theorem OkV.len {q : Nat × Val} (h : OkV q) : (encV q.2).length ≤ 100 := by
  obtain ⟨i, x⟩ := q
  cases x with
  | num k => exact Nat.le_trans (vint_len k) (by decide)
  | flag b => exact Nat.le_of_ble_eq_true rfl
  | oct l => exact Nat.le_trans h.2.2 (by decide)
  | addr y =>
    obtain ⟨l1, i1, l2, i2, l3, l4⟩ := y
    obtain ⟨rfl, rfl, rfl, rfl, rfl, h3, h4⟩ := h
    show (putAddr (fourB, 4433, sixtB, 258, l3, l4)).length ≤ 100
    have : (putAddr (fourB, 4433, sixtB, 258, l3, l4)).length = 25 + l3.length + l4.length := by
      unfold putAddr
      rw [List.length_append, List.length_append]
      rfl
    (first | lia | omega)
theorem encI_len : ∀ {items : List (Int × List Int)}, (∀ q ∈ items, q.2.length ≤ 100) → (encI items).length ≤ 116 * items.length
  | [], _ => Nat.le_refl _
  | q :: r, h => by
    have ih := encI_len (items := r) fun x hx => h x (List.mem_cons_of_mem _ hx)
    have := h q (List.mem_cons_self ..)
    have rl := rowB_len q.1 q.2
    unfold encI at ih ⊢
    rw [List.flatMap_cons, List.length_append, List.length_cons]
    (first | lia | omega)
theorem small_items {ix : List (Nat × Val)} {un : List (Int × List Int)} (h : IxOk ix) (hu : UnOk un) : ∀ q ∈ ix.map itemOf ++ un, q.2.length ≤ 100 := fun q hq => by
  rcases List.mem_append.mp hq with hq | hq
  · obtain ⟨r, hr, rfl⟩ := List.mem_map.mp hq
    exact (h.ok r hr).len
  · exact (hu.hi q hq).2.2
theorem IxOk.len {ix : List (Nat × Val)} (h : IxOk ix) : ix.length ≤ 17 := by
  have := nodup_le 17 (ix.map (·.1)) h.nd fun i hi => by
    obtain ⟨q, hq, rfl⟩ := List.mem_map.mp hi
    exact (h.ok q hq).lt
  simpa using this
theorem enc_small {ix : List (Nat × Val)} {un : List (Int × List Int)} (h : IxOk ix) (hu : UnOk un) : (encI (ix.map itemOf ++ un)).length ≤ 2300 := by
  have z := encI_len (small_items h hu)
  have := h.len
  have := hu.len
  rw [List.length_append, List.length_map] at z
  (first | lia | omega)


-- F53
/-! b''.join(list of bytes) -/
namespace BJ
open Builtin
theorem slot : Slot "bytes" "join" "bytes.join" :=
  .of (owner := "bytes") (n := "join") (by rw [typeLookup_type, builtinLookup_eq_fast]; kernel_rfl) (by decide +kernel) (by decide +kernel) (by decide +kernel)
    (by first | exact .inl (by decide +kernel) | exact .inr (by decide +kernel)) (by rw [isSubtype_type]; kernel_rfl)
theorem ty : typeOf (.builtin "bytes.join") = pure (.type "method_descriptor") := by show builtinType _ = _; rw [builtinType_eq_fast]; kernel_rfl
theorem entry : entryFor table "bytes.join" = some Builtin.«bytes.join» := entryFor_of_tree (by kernel_rfl)
theorem args (a b : Value) : argsOk "bytes.join" ⟨[a, b], []⟩ := by
  unfold argsOk; rw [signature?_of (id := "bytes.join") (n := ['n', 'i', 'o', 'j']) (o := ['s', 'e', 't', 'y', 'b']) (by kernel_rfl) FB.owner_bytes]; kernel_rfl
theorem buf : typeLookup (.type "bytes") "__buffer__" = pure (some (.builtin "bytes.__buffer__")) := by rw [typeLookup_type, builtinLookup_eq_fast]; kernel_rfl
end BJ
theorem BJ.rel : typeLookup (.type "bytes") "__release_buffer__" = pure none := by rw [typeLookup_type, builtinLookup_eq_fast]; kernel_rfl
theorem bj_own {b : Array UInt8} {u : Tok} {QB : Bool → Shared → Prop} (K : QB true s) : wpAny M A (Builtin.Bytes.slotIsOwn (.bytes b u) "__buffer__") QB E s := by
  have key : ∀ x : String, x = "bytes" → wpAny M A (isInstance (.bytes b u) (.type x)) QB E s := fun x hx => by rw [hx]; exact wpAny_isInstance (PySem.W.typeIs_bytes s b u) PySem.F.sub_bytes_bytes K
  unfold Builtin.Bytes.slotIsOwn
  refine wpAny_bind (wpAny_specialOf (PySem.W.typeIs_bytes s b u) BJ.buf ?_)
  dsimp only
  split
  · rename_i hx
    exact absurd hx (by decide +kernel)
  · exact key _ (by decide +kernel)
theorem bj_rel {b : Array UInt8} {u : Tok} {QB : Bool → Shared → Prop} (K : QB false s) : wpAny M A (Builtin.Bytes.ownRelease (.bytes b u)) QB E s := by
  unfold Builtin.Bytes.ownRelease Builtin.Bytes.slotIsOwn
  refine wpAny_bind (wpAny_bind (wpAny_specialOf (PySem.W.typeIs_bytes s b u) BJ.rel ?_))
  exact wpAny_pure (wpAny_pure K)
theorem bj_buffer {b : Array UInt8} {u : Tok} {id : String} {fl : Bool} {QB : Option (Array UInt8) → Shared → Prop} (K : QB (some b) s) : wpAny M A (Builtin.Bytes.buffer? id (.bytes b u) fl) QB E s := by
  unfold Builtin.Bytes.buffer?
  refine wpAny_bind (wpAny_specialOf (PySem.W.typeIs_bytes s b u) BJ.buf ?_)
  try dsimp only
  refine wpAny_bind (bj_own ?_)
  refine bm_if_false rfl ?_
  refine wpAny_bind (wpAny_specialOf (PySem.W.typeIs_bytes s b u) BJ.buf ?_)
  try dsimp only
  refine wpAny_bind (bj_rel ?_)
  refine bm_if_false rfl ?_
  exact wpAny_bind (wpAny_pure (wpAny_pure K))
open Builtin Builtin.Bytes in
theorem bj_take {b : Array UInt8} {u : Tok} {id : String} {QB : Option (Array UInt8 × Option Value) → Shared → Prop} (K : QB (some (b, none)) s) : wpAny M A (takeBufferQuiet? id (.bytes b u) 0) QB E s := by
  unfold takeBufferQuiet?
  refine wpAny_bind (wpAny_attempt ?_)
  unfold takeBuffer?
  refine wpAny_bind (wpAny_specialOf (PySem.W.typeIs_bytes s b u) BJ.buf ?_)
  try dsimp only
  refine wpAny_bind (bj_own ?_)
  refine bm_if_false rfl ?_
  refine wpAny_bind (wpAny_specialOf (PySem.W.typeIs_bytes s b u) BJ.buf ?_)
  try dsimp only
  refine wpAny_bind (bj_buffer ?_)
  exact wpAny_pure (wpAny_pure K)

noncomputable def arrV : Value → Array UInt8
  | .bytes b _ => b
  | _ => #[]
theorem bj_letgo {keep : List Value} {QU : Unit → Shared → Prop} (K : QU () s) : ∀ xs : List Value, wpAny M A (Builtin.Bytes.joinLetGo (xs.map fun x => (x, none)) keep) QU E s
  | [] => wpAny_pure K
  | x :: r => by
    show wpAny _ _ (Builtin.Bytes.joinLetGo ((x, none) :: r.map fun x => (x, none)) keep) _ _ _
    unfold Builtin.Bytes.joinLetGo
    show wpAny _ _ (letGo [x] _ >>= fun _ => _) _ _ _
    refine wpAny_bind ?_
    unfold letGo
    refine wpAny_bind (wpAny_holding (wpAny_point ?_))
    unfold letGo
    exact wpAny_pure (bj_letgo K r)
theorem joined_ints : ∀ (ps : List (Array UInt8)) (i : Nat) (acc : Array UInt8), KBw.bInts ((ps.zipIdx i).foldl (fun out (q : Array UInt8 × Nat) => (if q.2 > 0 then out ++ #[] else out) ++ q.1) acc) = KBw.bInts acc ++ ps.flatMap KBw.bInts
  | [], _, acc => by simp
  | p :: r, i, acc => by
    rw [List.zipIdx_cons, List.foldl_cons, joined_ints r, List.flatMap_cons, ← List.append_assoc]
    congr 1
    split <;> simp [KBw.bInts]
theorem BL.arr {ls : List (List Int)} {xs : List Value} (b : BL ls xs) : (xs.map arrV).flatMap KBw.bInts = ls.flatMap id := by
  induction b with
  | nil => rfl
  | cons hb _ ih => rw [List.map_cons, List.flatMap_cons, List.flatMap_cons, ih]; show KBw.bInts (arrV (.bytes _ _)) ++ _ = _; rw [← hb]; rfl
theorem sizes_arr : ∀ (ps : List (Array UInt8)) (n : Nat), ps.foldl (fun a p => a + p.size) n = n + (ps.flatMap KBw.bInts).length
  | [], n => rfl
  | p :: r, n => by rw [List.foldl_cons, sizes_arr r, List.flatMap_cons, List.length_append, KBw.ints_length]; (first | lia | omega)
open Builtin Builtin.Bytes in
theorem bj_join {l : Addr} {xs : List Value} {ls : List (List Int)} {sb : Array UInt8} {u : Tok} (hs : sb = #[]) (ha : At h l (Lst xs)) (hb : BL ls xs) (hz : (ls.flatMap id).length ≤ 100000) (K : ∀ v t', vB (ls.flatMap id) v → Q v (Mk s h t')) :
    wpAny (model p w) A (call (.builtin "bytes.join") [.bytes sb u, .ref l]) Q E (Mk s h t) := by
  refine wpAny_call_entry BJ.slot (PySem.W.typeIs_bytes _ sb u) BJ.entry ?_ (BJ.args _ _)
  obtain ⟨o, ho, hc, n, hd⟩ := ha
  have seqI : ∀ {QS : Option (Array Value) → Shared → Prop} {E : Value → Shared → Prop} {t : Nat}, QS (some xs.toArray) (Mk s h t) → wpAny (model p w) A.in1 (seqItems? (.ref l)) QS E (Mk s h t) := fun {QS E t} z => by
    unfold seqItems?
    refine wpAny_bind (wpAny_load (s := Mk s h t) ho ?_)
    rw [hd]
    exact wpAny_pure z
  unfold Builtin.«bytes.join» joinM
  refine wpAny_bind (wpAny_pure ?_)
  refine bm_if_true rfl ?_
  refine wpAny_bind ?_
  unfold joinItems
  refine wpAny_bind (wpAny_typeOf (s := Mk s h t) ⟨o, ho, hc⟩ ?_)
  refine bm_if_true rfl ?_
  refine wpAny_pure ?_
  refine wpAny_bind (seqI ?_)
  dsimp only
  refine bm_if_true rfl ?_
  have loop : ∀ X : Array Value, X = xs.toArray → ∀ {f : Nat → Array (Array UInt8) × List (Value × Option Value) → Sem (ForInStep (Array (Array UInt8) × List (Value × Option Value)))} {QL : Array (Array UInt8) × List (Value × Option Value) → Shared → Prop} {E : Value → Shared → Prop},
      (∀ i b u ps (tk : List Value), xs[i]? = some (.bytes b u) → (∀ v ∈ tk, ∃ b u, v = Value.bytes b u) → ∀ {QF : ForInStep (Array (Array UInt8) × List (Value × Option Value)) → Shared → Prop}, QF (.yield (ps.push b, (tk ++ [Value.bytes b u]).map fun x => (x, none))) (Mk s h t) → wpAny (model p w) A.in1 (f i (ps, tk.map fun x => (x, none))) QF E (Mk s h t)) →
      QL ((xs.map arrV).toArray, xs.map fun x => (x, none)) (Mk s h t) → wpAny (model p w) A.in1 (forIn [:X.size] ((#[] : Array (Array UInt8)), ([] : List (Value × Option Value))) f) QL E (Mk s h t) := by
    intro X hX f QL E hf hq
    subst hX
    rw [Std.Legacy.Range.forIn_eq_forIn_range']
    simp only [Std.Legacy.Range.size, Nat.sub_zero, Nat.add_sub_cancel, Nat.div_one, List.size_toArray]
    refine wpAny_forIn_list _ (fun rest q s' => s' = Mk s h t ∧ ∃ i, i ≤ xs.length ∧ rest = List.range' i (xs.length - i) ∧ q = (((xs.take i).map arrV).toArray, (xs.take i).map fun x => (x, none))) _ ?_ ?_ _ _ ⟨rfl, 0, Nat.zero_le _, by simp, rfl⟩
    · rintro x rest q s' ⟨rfl, i, hi, hr, rfl⟩
      have hlt : i < xs.length := by
        rcases Nat.lt_or_ge i xs.length with z | z
        · exact z
        · rw [Nat.sub_eq_zero_of_le z] at hr; exact nomatch hr
      rw [show xs.length - i = (xs.length - (i + 1)) + 1 by (first | lia | omega), List.range'_succ] at hr
      obtain ⟨rfl, rfl⟩ := List.cons.inj hr
      obtain ⟨b, u', hv, _⟩ := hb.get (i := x) (List.getElem?_eq_getElem (hb.len ▸ hlt))
      refine hf x b u' _ (xs.take x) hv (fun v hv' => ?_) ⟨rfl, x + 1, hlt, rfl, ?_⟩
      · obtain ⟨j, hj⟩ := List.getElem?_of_mem (List.mem_of_mem_take hv')
        obtain ⟨b, u', hv2, _⟩ := hb.get (i := j) (List.getElem?_eq_getElem (hb.len ▸ (List.getElem?_eq_some_iff.mp hj).1))
        rw [hj] at hv2; cases hv2; exact ⟨b, u', rfl⟩
      · rw [List.take_succ, hv]
        simp [arrV]
    · rintro q s' ⟨rfl, i, hi, hr, rfl⟩
      have : i = xs.length := by
        rcases Nat.lt_or_ge i xs.length with z | z
        · rw [show xs.length - i = (xs.length - (i + 1)) + 1 by (first | lia | omega), List.range'_succ] at hr; exact nomatch hr
        · (first | lia | omega)
      subst this
      rw [List.take_length]
      exact hq
  rcases xs with _ | ⟨x, _ | ⟨y, r⟩⟩
  rotate_left
  · show wpAny _ _ (typeOf x >>= _) _ _ _
    cases hb with
    | cons hbb hr =>
      cases hr
      refine wpAny_bind (wpAny_typeOf (PySem.W.typeIs_bytes _ _ _) ?_)
      refine bm_if_true (by decide) ?_
      refine wpAny_bind (wpAny_rule ?_)
      refine wpAny_pure ⟨_, rfl, K _ _ ⟨_, _, rfl, ?_⟩⟩
      rw [hbb]; simp
  all_goals
    refine wpAny_bind (loop _ rfl (fun i b u ps tk hx htk QF hQF => ?_) ?_)
    · refine wpAny_bind (seqI ?_)
      dsimp only
      have gx : ∀ {xs : List Value}, xs[i]? = some (Value.bytes b u) → xs.toArray.getD i .none = .bytes b u := fun {xs} h => by
        rw [Array.getD_eq_getD_getElem?]; simp [h]
      rw [gx hx]
      have nh : (Kind.bytes == Kind.bytearray || (tk.map fun x => ((x, none) : Value × Option Value)).any fun x => x.1.onHeap) = false := by
        rw [Bool.or_eq_false_iff]
        refine ⟨by decide, ?_⟩
        rw [List.any_eq_false]
        intro q hq
        obtain ⟨v, hv, rfl⟩ := List.mem_map.mp hq
        obtain ⟨b, u, rfl⟩ := htk v hv
        exact Bool.false_ne_true
      refine bm_if_false nh ?_
      refine wpAny_bind (wpAny_holding (bj_take ?_))
      dsimp only
      refine wpAny_bind (seqI ?_)
      dsimp only
      refine bm_if_false (by simp) ?_
      have e : ((tk.map fun x => ((x, none) : Value × Option Value)) ++ [(Value.bytes b u, none)]) = (tk ++ [Value.bytes b u]).map fun x => (x, none) := by rw [List.map_append]; rfl
      rw [e]
      exact wpAny_pure hQF
    · refine wpAny_bind (wpAny_of_eq (a := sb) rfl ?_)
      subst hs
      have le : ∀ {ps : List (Array UInt8)}, ps.flatMap KBw.bInts = ls.flatMap id → (Array.foldl (fun x1 x2 => x1 + x2.size) ((#[] : Array UInt8).size * (ps.toArray.size - 1)) ps.toArray) = (ls.flatMap id).length := fun {ps} h => by
        have z : ((#[] : Array UInt8).size * (ps.toArray.size - 1)) = 0 := by simp
        rw [z, List.foldl_toArray', sizes_arr, h, Nat.zero_add] <;> simp
      have ha := hb.arr
      have jz : ∀ {ps : List (Array UInt8)}, ps.flatMap KBw.bInts = ls.flatMap id → KBw.bInts (joined #[] ps) = ls.flatMap id := fun {ps} h => (joined_ints ps 0 #[]).trans h
      dsimp only
      refine bm_if_false (by unfold tooLong; rw [le ha]; exact decide_eq_false (by rw [sizeLine_eq]; (first | lia | omega))) ?_
      refine wpAny_bind ?_
      show wpAny _ _ (mkBytes (joined #[] _)) _ _ _
      refine wpAny_mkBytes ?_ (by rw [← KBw.ints_length, jz ha, sizeLine_eq]; (first | lia | omega))
      refine wpAny_bind (wpAny_holding (wpAny_point ?_))
      refine wpAny_bind (bj_letgo ?_ _)
      exact wpAny_pure ⟨_, rfl, K _ _ ⟨_, _, rfl, jz ha⟩⟩


-- F54
noncomputable def KVk (q : Str × Value) : Kd := fun o => ∃ u, Tup [.str q.1 u, q.2] o
noncomputable def KVL (as : List Addr) (kvs : List (Str × Value)) : Led := List.zipWith (fun T q => (T, KVk q)) as kvs
theorem KVL_keys : ∀ {as : List Addr} {kvs : List (Str × Value)}, as.length = kvs.length → (KVL as kvs).map (·.1) = as
  | [], [], _ => rfl
  | a :: as, q :: kvs, h => by
    show a :: (KVL as kvs).map (·.1) = _
    rw [KVL_keys (by simpa using h)]
theorem KVL_at {as : List Addr} {kvs : List (Str × Value)} {j : Nat} {T : Addr} {q : Str × Value} (h : as[j]? = some T) (hq : kvs[j]? = some q) : (T, KVk q) ∈ KVL as kvs := by
  refine List.mem_of_getElem? (i := j) ?_
  unfold KVL
  rw [List.getElem?_zipWith, h, hq]
/-- list(d.items()) of a view -/
theorem k_items {V d : Addr} {kvs : List (Str × Value)} (S : St c outer D h0 L m led h) (hV : At h V (fun o => o.cls = .type "dict_items" ∧ o.data = .fields #[.ref d])) (hd : At h d (Dct c kvs)) (hh : A.handled = none) (hz : kvs.length ≤ 10000)
    (K : ∀ F as h' t', as.length = kvs.length → h0.get? F = none → St c outer D h0 L m ((F, LN (as.map .ref)) :: (KVL as kvs ++ led)) h' → Q (.ref F) (Mk s h' t')) : wpAny (model pw c.w) A (call (.type "list") [.ref V]) Q E (Mk s h t) := by
  obtain ⟨ep, hat⟩ := hd.dct.dictAt
  refine kdx_call (s := Mk s h t) (knd := PySem.strKind pw c.w) hh hV hat (by rw [sizeLine_eq]; (first | lia | omega)) fun h' tk acc cc as hk hS hl hG hacc => ?_
  have ea : acc = (as.map Value.ref).toArray := by rw [← hacc, Array.toArray_toList]
  have fr : ∀ a ∈ as, h.get? a = none := fun a ha => Heap.get?_none_of_le (Nat.le_of_lt (hG.above a ha))
  refine K h.objs.size as h' tk hl (S.old (new_size h)) ?_
  have key := KVL_keys hl
  refine S.more (news := (h.objs.size, LN (as.map .ref)) :: KVL as kvs) hk (fun p hp => ?_) ?_
  · rcases List.mem_cons.mp hp with rfl | hp
    · exact ⟨⟨_, hS, rfl, rfl, _, by rw [ea]⟩, new_size h⟩
    · obtain ⟨j, hj⟩ := List.getElem?_of_mem hp
      unfold KVL at hj
      rw [List.getElem?_zipWith] at hj
      obtain ⟨T, q, hT, hq, rfl⟩ : ∃ T q, as[j]? = some T ∧ kvs[j]? = some q ∧ (T, KVk q) = p := by
        cases e1 : as[j]? with
        | none => rw [e1] at hj; cases hj
        | some T =>
          cases e2 : kvs[j]? with
          | none => rw [e1, e2] at hj; cases hj
          | some q => rw [e1, e2] at hj; exact ⟨T, q, rfl, rfl, Option.some.inj hj⟩
      obtain ⟨key', k, x, e1, e2, e3⟩ := hG.pairs j T hT
      rw [hq] at e1; cases e1
      obtain ⟨u, rfl⟩ := is_str e2
      exact ⟨⟨_, e3, u, rfl, _, rfl⟩, fr T (List.mem_of_getElem? hT)⟩
  · rw [List.map_cons, key]
    refine List.nodup_cons.mpr ⟨fun hm => Nat.lt_irrefl _ (hG.above _ hm), hG.rise.imp fun h => Nat.ne_of_lt h⟩
theorem k_view {d : Addr} {kvs : List (Str × Value)} (S : St c outer D h0 L m led h) (hd : At h d (Dct c kvs)) (ns : (d == sysModules) = false)
    (K : ∀ V h', h0.get? V = none → St c outer D h0 L m ((V, fun o => o.cls = .type "dict_items" ∧ o.data = .fields #[.ref d]) :: led) h' → Q (.ref V) (Mk s h' t)) : wpAny (model pw c.w) A (call (.builtin "dict.items") [.ref d]) Q E (Mk s h t) := by
  have z := K _ _ (S.old (new_size h)) (S.push { cls := .type "dict_items", data := .fields #[.ref d] } (fun o => o.cls = .type "dict_items" ∧ o.data = .fields #[.ref d]) ⟨rfl, rfl⟩)
  refine wpAny_call_entry (s := Mk s h t) PySem.F.slot_dict_items hd.dct.typeIs PySem.F.entry_dict_items ?_ (PySem.F.args_dict_items_1 _)
  unfold Builtin.«dict.items»
  refine wpAny_bind ?_
  unfold Builtin.Dict.noArgs
  refine wpAny_bind (wpAny_notOrdered_dict (hd.dct.typeIs (s := Mk s h t)) ?_)
  show wpAny _ _ (pure d) _ _ _
  refine wpAny_pure ?_
  show wpAny _ _ (Builtin.Dict.showsAll d >>= _) _ _ _
  unfold Builtin.Dict.showsAll
  rw [if_neg (by rw [ns]; exact Bool.false_ne_true)]
  refine wpAny_bind (wpAny_pure ?_)
  exact wpAny_bind (wpAny_newObj_type (wpAny_pure ⟨_, rfl, z⟩))
/-- dict(list of pairs) -/
theorem k_dict {F : Addr} {xs : List Value} {kvs : List (Str × Value)} (S : St c outer D h0 L m led h) (hF : At h F (LN xs)) (hh : A.handled = none) (hl : xs.length = kvs.length) (hz : kvs.length ≤ 10000) (nd : (kvs.map (·.1)).Nodup)
    (hp : ∀ (i : Nat) (v : Value) (q : Str × Value), xs[i]? = some v → kvs[i]? = some q → KV h v q)
    (K : ∀ d h' t', h0.get? d = none → (d == sysModules) = false → St c outer D h0 L m ((d, Dct c kvs) :: led) h' → Q (.ref d) (Mk s h' t')) : wpAny (model pw c.w) A (call (.type "dict") [.ref F]) Q E (Mk s h t) := by
  refine kd_make (.inr hF.ln) (fun o e => ?_) hh hl hz hp fun h' tk hk hd => ?_
  · obtain ⟨o', e', _, dn, _⟩ := hF
    rw [e] at e'; cases e'; exact dn
  · rw [merged_nil_of_nodup _ nd] at hd
    refine K h.objs.size h' tk (S.old (new_size h)) S.nsys (S.more (news := [(h.objs.size, Dct c kvs)]) hk (fun p hp => ?_) (by simp))
    rw [List.mem_singleton.mp hp]
    exact ⟨At.ofDct hd, new_size h⟩


-- F56
section
variable {d : Addr} {x y : Str} {np pos p2 : Pos} {a1 a2 : Expr} {h1 : Heap} {ix iy : List (Nat × Val)} {un : List (Int × List Int)} {e : Addr}
theorem cx_room {k : Nat} (C : Cx c (k + 1) A outer h hv) : A.units < cLine ∧ A.in1.units < cLine ∧ A.in1.in1.units < cLine := by
  have := C.un
  have e1 : A.in1.units ≤ A.units + 20 := by show A.units + _ ≤ _; (first | lia | omega)
  have e2 : A.in1.in1.units ≤ A.in1.units + 20 := by show A.in1.units + _ ≤ _; (first | lia | omega)
  exact ⟨by (first | lia | omega), by (first | lia | omega), by (first | lia | omega)⟩
theorem Due.of {dn kvs : List (Str × Value)} {U : Addr} {Us : List Addr} {vl : Led} (S : St c outer D h0 L m led h) (he : (e, Dct c (merged (dn ++ [(DAM, .bool false), (UNK, .ref U)]) kvs)) ∈ led) (hnt : NT dueL dn) (dl : DL (named ix) kvs vl) (hvl : ∀ p ∈ vl, p ∈ led) (hU : (U, LN (Us.map .ref)) ∈ led) (eU : Us.length = un.length) (hUs : ∀ p ∈ PLd Us un, p ∈ led) : IsDue c h e (named ix) un :=
  ⟨dn, kvs, U, Us, vl, S.lat _ he, hnt, dl, fun p hp => S.lat p (hvl p hp), S.lat _ hU, eU, fun p hp => S.lat p (hUs p hp)⟩
/-- read_params(octets, role), its dict on the ledger's front -/
theorem x_read {role : Str} {ks : List Int} (H1 : Ev c outer D h0 L m led A (envY name scope L a cd cY) a1 (vB ks)) (H2 : Ev c outer D h0 L m led A (envY name scope L a cd cY) a2 (vS role)) (S : St c outer D h0 L m led h) (hr : role.length ≤ 60) (hz : ks.length ≤ 4000) {f : List (Str × Val)} (hrd : rdParams role ks = some (un, f)) (C : Cx c (n + 7) A (envY name scope L a cd cY :: outer) h1 none)
    (K : ∀ d news h' t', (d == sysModules) = false → St c outer D h0 L m (news ++ led) h' → (∀ h, St c outer D h0 L m (news ++ led) h → IsRead c h d f un) → Q (.ref d) (Mk s h' t'))
    (hk : scope.kind = .function := by with_unfolding_all rfl) (hl : (envY name scope L a cd cY).kindOf (Str.ofString "read_params") = some .globalImplicit := by with_unfolding_all rfl)
    (he : starEach [a1, a2] (envY name scope L a cd cY) = (false, eval a1 (envY name scope L a cd cY)) :: starEach [a2] (envY name scope L a cd cY) := by with_unfolding_all rfl)
    (he1 : starEach [a2] (envY name scope L a cd cY) = (false, eval a2 (envY name scope L a cd cY)) :: starEach [] (envY name scope L a cd cY) := by with_unfolding_all rfl)
    (hp : (backTo pos (starEach [a2] (envY name scope L a cd cY))).any (·.1) = false := by with_unfolding_all rfl) :
    wpAny (model pw c.w) A (eval (.Call (.Name (Str.ofString "read_params") np) [a1, a2] [] pos) (envY name scope L a cd cY)) Q E (Mk s h t) := by
  refine x_call (x_glob S (g_read_params S.g) (x_cw (K := hd.heap_1 c.w.params) (by rfl) (x_arg (S.run H1 fun v h t ⟨b, u, q, hb⟩ S => x_arg (S.run H2 fun v2 h t ⟨u2, q2⟩ S => x_argN ⟨S.g.X, ?_⟩) he1) he) he hp) hk hl)
  subst q q2
  refine spec_read_params (n := n) hr hb hz (S.cx C rfl hk) S.g (fun un' f' e d kvs0 U Us kvs vl h t ds hnt eU dl hU R => ?_) (fun e => by rw [hrd] at e; cases e)
  rw [hrd] at e
  cases e
  have S := S.ret (pre := []) R rfl
  refine K d _ h t ds S fun h S => ⟨kvs0, kvs, U, Us, vl, S.lat _ (List.mem_append_left _ (List.mem_cons_self ..)), hnt, dl, fun p hp => S.lat p (List.mem_append_left _ (List.mem_cons_of_mem _ (List.mem_cons_of_mem _ hp))), S.lat _ (List.mem_append_left _ (List.mem_cons_of_mem _ (List.mem_cons_self ..))), eU, fun p hp => S.lat p (List.mem_append_left _ (List.mem_cons_of_mem _ (List.mem_cons_of_mem _ (hU p hp))))⟩
theorem b_read (H1 : Ev c outer D h0 L m led A (envY name scope L a cd cY) a1 (vB (encI (iy.map itemOf ++ un)))) (H2 : Ev c outer D h0 L m led A (envY name scope L a cd cY) a2 (vS (Str.ofString "server"))) (hx : m x = some (.ref e)) (es : (e == sysModules) = false)
    (hdue : ∀ h, St c outer D h0 L m led h → IsDue c h e (named ix) un) (hi : IxOk ix) (hu : UnOk un) (p : iy.Perm ix) (C : Cx c (n + 7) A (envY name scope L a cd cY :: outer) h1 none)
    (hk : scope.kind = .function := by with_unfolding_all rfl) (hl : (envY name scope L a cd cY).kindOf (Str.ofString "read_params") = some .globalImplicit := by with_unfolding_all rfl) (hlx : (envY name scope L a cd cY).kindOf x = some .local := by with_unfolding_all rfl) (hd : (x == ("__debug__" : Str)) = false := by decide)
    (he : starEach [a1, a2] (envY name scope L a cd cY) = (false, eval a1 (envY name scope L a cd cY)) :: starEach [a2] (envY name scope L a cd cY) := by with_unfolding_all rfl)
    (he1 : starEach [a2] (envY name scope L a cd cY) = (false, eval a2 (envY name scope L a cd cY)) :: starEach [] (envY name scope L a cd cY) := by with_unfolding_all rfl)
    (hp : (backTo pos (starEach [a2] (envY name scope L a cd cY))).any (·.1) = false := by with_unfolding_all rfl) :
    Tb c outer D h0 L m led A (envY name scope L a cd cY) (.Compare (.Call (.Name (Str.ofString "read_params") np) [a1, a2] [] pos) [.NotEq] [.Name x np'] p2) (· = false) :=
  .mk fun S K => wpAny_isTrue_Compare1 (x_read H1 H2 S (by decide) (Nat.le_trans (enc_small (hi.perm p) hu) (by decide)) (read_all (hi.perm p) hu) C (fun d news h t ds S hrd => x_loc S hx (by
    have S0 := S.sublist (List.sublist_append_right news _)
    obtain ⟨u1, u2, u3⟩ := cx_room (k := n + 6) C
    refine ne_law (hrd _ S) (hdue _ S0) (named_nodup (hi.perm p)) (named_perm p) (named_unk (hi.perm p)) ds es u1 u2 u3 (wpAny_truthy_bool (K _ _ _ rfl S0))) hk hlx hd) hk hl he he1 hp) rfl
end
theorem a_nameY {x : Str} {ps : Pos} {es : List Expr} {v : Value} {vs : List Value} {mC : Str → Option Value} {CC : Addr} {cl : List (Str × Addr)} {QU : Unit → Shared → Prop} (S : St c outer D h0 L m ((CC, NsP mC) :: led) h)
    (H : ∀ h' t' mC', mC' x = some v → (∀ y, y ≠ x → mC' y = mC y) → St c outer D h0 L m ((CC, NsP mC') :: led) h' → wpAny (model p w) A (assignInOrder ((assignEach es (compEnvC scope cl CC env)).map (·.2)) vs) QU E (Mk s h' t'))
    (hk : scope.kind = .function := by with_unfolding_all rfl) (hl : (compEnvC scope cl CC env).kindOf x = some .local := by with_unfolding_all rfl)
    (he : (assignEach (.Name x ps :: es) (compEnvC scope cl CC env)).map (·.2) = assign (.Name x ps) (compEnvC scope cl CC env) :: (assignEach es (compEnvC scope cl CC env)).map (·.2) := by with_unfolding_all rfl) :
    wpAny (model p w) A (assignInOrder ((assignEach (.Name x ps :: es) (compEnvC scope cl CC env)).map (·.2)) (v :: vs)) QU E (Mk s h t) := by
  rw [he]
  exact assignInOrder_cons (wpAny_assign_Name (y_store S H hk hl))
theorem BL.rev {ls : List (List Int)} {vs : List Value} (x : BL ls vs) : BL ls.reverse vs.reverse := by
  induction x with
  | nil => exact .nil
  | cons hb _ ih => rw [List.reverse_cons, List.reverse_cons]; exact ih.snoc hb
theorem rows_join (ix : List (Nat × Val)) (un : List (Int × List Int)) : ((ix.map fun q => rowB q.1 (encV q.2)).reverse ++ un.map fun q => rowB q.1 q.2).flatMap id = encI (ix.reverse.map itemOf ++ un) := by
  rw [← List.map_reverse, List.flatMap_append]
  unfold encI
  rw [List.flatMap_append, List.flatMap_map, List.flatMap_map, List.flatMap_map]
  rfl
section
variable {x y : Str} {np pos pos2 p1 p2 p3 p4 p5 p6 : Pos} {k0 : Nat} {a1 a2 : Expr} {h1 : Heap} {l : Addr} {xs : List Value} {ls : List (List Int)}
theorem e_join {pl : Sem Bool} (H : Ev c outer D h0 L m led A env a1 (· = .ref l)) (ha : ∀ h, St c outer D h0 L m led h → At h l (Lst xs)) (hb : BL ls xs) (hz : (ls.flatMap id).length ≤ 100000)
    (he : eval (.Call (.Attribute (.Constant (.bytes []) k0 p1) (Str.ofString "join") p2) [a1] [] p3) env = (do
      let ov ← eval (.Constant (.bytes []) k0 p1) env
      standAt p2.atName
      let (f, first) ← holding [ov] (getMethod ov (Str.ofString "join") pl)
      callWith p3 f first (backTo p3 (starEach [a1] env)) (backToKw p3 (keywordEach [] env))) := by with_unfolding_all rfl)
    (hs : starEach [a1] env = (false, eval a1 env) :: starEach [] env := by with_unfolding_all rfl) :
    Ev c outer D h0 L m led A env (.Call (.Attribute (.Constant (.bytes []) k0 p1) (Str.ofString "join") p2) [a1] [] p3) (vB (ls.flatMap id)) :=
  .mk fun S K => x_callA (Constant_bytes (getMethod_builtin (PySem.W.typeIs_bytes _ _ _) FB.plainAttrs_bytes BJ.slot BJ.ty (fun a q => nomatch q) (x_cwB1 (x_arg (H.run S fun v h t q S => x_argN (by subst q; exact bj_join rfl (ha _ S) hb hz fun v t hv => K v _ t hv S)) hs) hs))) he
theorem due_empty {dn : List (Str × Value)} {e U : Addr} (S : St c outer D h0 L m ((e, Dct c (merged (dn ++ [(DAM, .bool false), (UNK, .ref U)]) [])) :: led) h) (hnt : NT dueL dn) (hU : (U, LN []) ∈ led) : IsDue c h e [] [] :=
  ⟨dn, [], U, [], [], S.head, hnt, .nil, fun _ q => (nomatch q), S.lat _ (List.mem_cons_of_mem _ hU), rfl, fun _ q => (nomatch q)⟩
theorem b_empty (C : Cx c (n + 7) A (envY name scope L a cd cY :: outer) h1 none)
    (hk : scope.kind = .function := by with_unfolding_all rfl) (hl : (envY name scope L a cd cY).kindOf (Str.ofString "read_params") = some .globalImplicit := by with_unfolding_all rfl) (hl2 : (envY name scope L a cd cY).kindOf (Str.ofString "_law_due") = some .globalImplicit := by with_unfolding_all rfl)
    {e1 e2 : Expr} (E1 : e1 = .Constant (.bytes []) k0 p1) (E2 : e2 = .Constant (.str (Str.ofString "client")) k0 p2)
    (he : starEach [e1, e2] (envY name scope L a cd cY) = (false, eval e1 (envY name scope L a cd cY)) :: starEach [e2] (envY name scope L a cd cY) := by with_unfolding_all rfl)
    (he1 : starEach [e2] (envY name scope L a cd cY) = (false, eval e2 (envY name scope L a cd cY)) :: starEach [] (envY name scope L a cd cY) := by with_unfolding_all rfl)
    (hp : (backTo pos (starEach [e2] (envY name scope L a cd cY))).any (·.1) = false := by with_unfolding_all rfl)
    (hd1 : starEach [.Dict [] [] p3, .List [] p4] (envY name scope L a cd cY) = (false, eval (.Dict [] [] p3) (envY name scope L a cd cY)) :: starEach [.List [] p4] (envY name scope L a cd cY) := by with_unfolding_all rfl)
    (hd2 : starEach [.List [] p4] (envY name scope L a cd cY) = (false, eval (.List [] p4) (envY name scope L a cd cY)) :: starEach [] (envY name scope L a cd cY) := by with_unfolding_all rfl)
    (hd3 : (backTo pos2 (starEach [.List [] p4] (envY name scope L a cd cY))).any (·.1) = false := by with_unfolding_all rfl)
    (hm : behindInMarks .NotEq (.Call (.Name (Str.ofString "_law_due") p6) [.Dict [] [] p3, .List [] p4] [] pos2) = false := by first | rfl | with_unfolding_all rfl) :
    Tb c outer D h0 L m led A (envY name scope L a cd cY) (.Compare (.Call (.Name (Str.ofString "read_params") np) [e1, e2] [] pos) [.NotEq] [.Call (.Name (Str.ofString "_law_due") p6) [.Dict [] [] p3, .List [] p4] [] pos2] p5) (· = false) := by
  subst E1 E2
  refine .mk fun S K => wpAny_isTrue_Compare1 (x_read (ks := []) (un := []) (f := []) (e_byt rfl) e_str S (by decide) (by decide) cli_empty C (fun d news h t ds S hrd => ?_) hk hl he he1 hp) hm
  refine x_call (x_glob S (g_law_due S.g) (x_cw (K := hd.heap_1 c.w.params) (by rfl) (x_arg (mk_dict0 S (fun d2 h d20 d2s S _ => x_arg (x_lstQ (x_argN (mk_listN S (Nat.le_of_ble_eq_true rfl) (fun U h U0 S _ => x_argN ⟨S.g.X, ?_⟩)))) hd2)) hd1) hd1 hd3) hk hl2)
  refine spec_law_due (n := n + 6) (kvs := []) S.second (S.off (k := Dct c []) rfl (List.mem_cons_of_mem _ (List.mem_cons_self ..))) d2s (by decide) List.nodup_nil (S.cx C rfl hk) S.g (fun e dn h t es hdn R9 => ?_)
  have S := S.ret (pre := []) R9 rfl
  obtain ⟨u1, u2, u3⟩ := cx_room (k := n + 6) C
  have S1 := S.sublist (led' := _ ++ _) (List.Sublist.cons _ (List.Sublist.cons _ (List.Sublist.cons _ (List.Sublist.refl _))))
  have S0 := S1.sublist (List.sublist_append_right _ _)
  exact ne_law (hrd _ S1) (due_empty S hdn (List.mem_cons_self ..)) List.nodup_nil (List.Perm.refl _) (fun q => nomatch q) ds es u1 u2 u3 (wpAny_truthy_bool (K _ _ _ rfl S0))
end
theorem law_code {ls : List (Nat × Nat)} (g : G c h) (ht : At h 348 (TabP ls)) : CodeHd h 350 348 := by
  have e := g.X 350 _ (by rfl)
  exact ⟨_, _, _, _, _, _, _, _, _, e, rfl, rfl, rfl, rfl, rfl, rfl, rfl, rfl, by decide⟩
theorem LamK.fno {qual : Str} {params : Arguments} {body : Expr} {cl : List (Str × Addr)} {f c' : Addr} (x : At h f (LamK qual params body scope cl c')) : At h f Fno := by
  obtain ⟨o, e, pm, ctv, rfl⟩ := x
  exact ⟨_, e, rfl, _, rfl⟩
section
variable {params : Arguments} {body : Expr} {lscope : Scope} {np lpos pos pos2 ipos rpos cpos : Pos} {ls : List (Nat × Nat)} {clos : List (Str × Addr)} {h1 : Heap} {k0 : Nat}
theorem x_refused (S : St c outer D h0 L m ((348, TabP ls) :: led) h) (hcd : cd = .ref 350) (hb : h.BuiltinsAt c.mg 348) (hn : (lpos.line, lpos.col) ∉ ls) (C : Cx c (n + 3) A (envY name scope L a cd cY :: outer) h1 none)
    (hdef : defaultsOf params (envY name scope L a cd cY) = ([], [])) (hcl : closureFor lscope (envY name scope L a cd cY) = pure clos)
    (HR : ∀ f c' h', St c outer D h0 L m ((f, LamK ((envY name scope L a cd cY).qual ++ Str.ofString "<lambda>") params body lscope clos c') :: (c', CodK ((envY name scope L a cd cY).qual ++ Str.ofString "<lambda>")) :: (348, TabP ((lpos.line, lpos.col) :: ls)) :: led) h' → Refused c (n + 1) (envY name scope L a cd cY :: outer) h' f)
    (K : ∀ h' t', St c outer D h0 L m ((348, TabP ((lpos.line, lpos.col) :: ls)) :: led) h' → Q (.bool true) (Mk s h' t'))
    (hk : scope.kind = .function := by with_unfolding_all rfl) (hl : (envY name scope L a cd cY).kindOf (Str.ofString "_law_is_refused") = some .globalImplicit := by with_unfolding_all rfl)
    (he : starEach [.Lambda params body lscope lpos] (envY name scope L a cd cY) = (false, eval (.Lambda params body lscope lpos) (envY name scope L a cd cY)) :: starEach [] (envY name scope L a cd cY) := by with_unfolding_all rfl) :
    wpAny (model pw c.w) A (eval (.Call (.Name (Str.ofString "_law_is_refused") np) [.Lambda params body lscope lpos] [] pos) (envY name scope L a cd cY)) Q E (Mk s h t) := by
  refine x_call (x_glob S (g_law_is_refused S.g) (x_cw (K := hd.heap_1 c.w.params) (by rfl) (x_arg (mk_lambda S hcd (law_code S.g S.head) hb hn hdef hcl fun f c' h t f0 S => x_argN ⟨S.g.X, ?_⟩) he) he) hk hl)
  refine spec_is_refused (n := n) (LamK.fno S.head) (S.off (k := LamK _ _ _ _ _ _) rfl (List.mem_cons_self ..)) (HR f c' h S) (S.cx C rfl hk) S.g (fun h t R => K h t ((S.ret0 R).drop 2))
theorem x_ifRef {rest : List Stmt} {QF : Flow → Shared → Prop} (S : St c outer D h0 L m ((348, TabP ls) :: led) h) (hcd : cd = .ref 350) (hb : h.BuiltinsAt c.mg 348) (hn : (lpos.line, lpos.col) ∉ ls) (C : Cx c (n + 3) A (envY name scope L a cd cY :: outer) h1 none)
    (hdef : defaultsOf params (envY name scope L a cd cY) = ([], [])) (hcl : closureFor lscope (envY name scope L a cd cY) = pure clos)
    (HR : ∀ f c' h', St c outer D h0 L m ((f, LamK ((envY name scope L a cd cY).qual ++ Str.ofString "<lambda>") params body lscope clos c') :: (c', CodK ((envY name scope L a cd cY).qual ++ Str.ofString "<lambda>")) :: (348, TabP ((lpos.line, lpos.col) :: ls)) :: led) h' → Refused c (n + 1) (envY name scope L a cd cY :: outer) h' f)
    (K : ∀ h' t', St c outer D h0 L m ((348, TabP ((lpos.line, lpos.col) :: ls)) :: led) h' → wpAny (model pw c.w) A (execs rest (envY name scope L a cd cY)) QF E (Mk s h' t'))
    {e : Expr} {bd : List Stmt} (hE : e = .Call (.Name (Str.ofString "_law_is_refused") np) [.Lambda params body lscope lpos] [] pos) (hk : scope.kind = .function := by with_unfolding_all rfl) (hl : (envY name scope L a cd cY).kindOf (Str.ofString "_law_is_refused") = some .globalImplicit := by with_unfolding_all rfl)
    (he : starEach [.Lambda params body lscope lpos] (envY name scope L a cd cY) = (false, eval (.Lambda params body lscope lpos) (envY name scope L a cd cY)) :: starEach [] (envY name scope L a cd cY) := by with_unfolding_all rfl) :
    wpAny (model pw c.w) A (execs (.If (.UnaryOp .Not e pos2) bd [] ipos :: rest) (envY name scope L a cd cY)) QF E (Mk s h t) := by
  subst hE
  exact x_if (isTrue_not (isTrue_plain (x_refused S hcd hb hn C hdef hcl HR (fun h t S => wpAny_truthy_bool ⟨(fun q => by cases q), fun _ => x_nilN (K h t S)⟩) hk hl he) rfl))
end
theorem ne_nil {l b : Addr} {xs : List Value} (hl : At h l (Lst xs)) (hb : At h b (Lst [])) (hu : A.units < cLine) (K : Q (.bool (!xs.isEmpty)) (Mk s h t)) : wpAny (model p w) A (compareOp .NotEq (.ref l) (.ref b)) Q E (Mk s h t) := by
  cases xs with
  | nil => exact SeqAt.RcNeAt.lists (A := A) (s := Mk s h t) (e := fun _ => true) hl.list hb.list rfl hu (fun j j1 _ => absurd j1 (by simp)) p w E Q K
  | cons x r => exact SeqAt.RcNeAt.lists_lengths (A := A) (s := Mk s h t) hl.list hb.list (by simp) hu p w E Q K
section
variable {params : Arguments} {body : Expr} {lscope : Scope} {np lpos pos pos2 pos3 ipos p4 p5 : Pos} {ls : List (Nat × Nat)} {clos : List (Str × Addr)} {h1 : Heap} {e1 : Expr} {b0 : Bool} {l : Addr} {xs : List Value}
theorem b_neNil (H1 : Ev c outer D h0 L m led A env e1 (· = .ref l)) (ha : ∀ h, St c outer D h0 L m led h → At h l (Lst xs)) (hu : A.units < cLine) (hm : behindInMarks .NotEq (.List [] p4) = false := by first | rfl | with_unfolding_all rfl) : Tb c outer D h0 L m led A env (.Compare e1 [.NotEq] [.List [] p4] p5) (· = !xs.isEmpty) :=
  .mk fun S K => wpAny_isTrue_Compare1 (H1.run S fun v h t q S => x_lstQ (x_argN (mk_listN S (Nat.le_of_ble_eq_true rfl) (fun B h B0 S _ => by
    subst q
    have S0 := S.drop 1
    exact ne_nil (ha _ S0) S.head.ln hu (wpAny_truthy_bool (K _ _ _ rfl S0)))))) hm
theorem x_ifAndRef {rest : List Stmt} {QF : Flow → Shared → Prop} (H1 : Tb c outer D h0 L m ((348, TabP ls) :: led) A (envY name scope L a cd cY) e1 (· = b0)) (S : St c outer D h0 L m ((348, TabP ls) :: led) h) (hcd : cd = .ref 350) (hb : ∀ h, St c outer D h0 L m ((348, TabP ls) :: led) h → h.BuiltinsAt c.mg 348) (hn : (lpos.line, lpos.col) ∉ ls) (C : Cx c (n + 3) A (envY name scope L a cd cY :: outer) h1 none)
    (hdef : defaultsOf params (envY name scope L a cd cY) = ([], [])) (hcl : closureFor lscope (envY name scope L a cd cY) = pure clos)
    (HR : b0 = true → ∀ f c' h', St c outer D h0 L m ((f, LamK ((envY name scope L a cd cY).qual ++ Str.ofString "<lambda>") params body lscope clos c') :: (c', CodK ((envY name scope L a cd cY).qual ++ Str.ofString "<lambda>")) :: (348, TabP ((lpos.line, lpos.col) :: ls)) :: led) h' → Refused c (n + 1) (envY name scope L a cd cY :: outer) h' f)
    (K : ∀ tl h' t', (tl = ls ∨ tl = (lpos.line, lpos.col) :: ls) → St c outer D h0 L m ((348, TabP tl) :: led) h' → wpAny (model pw c.w) A (execs rest (envY name scope L a cd cY)) QF E (Mk s h' t'))
    {e : Expr} {bd : List Stmt} (hE : e = .Call (.Name (Str.ofString "_law_is_refused") np) [.Lambda params body lscope lpos] [] pos) (hk : scope.kind = .function := by with_unfolding_all rfl) (hl : (envY name scope L a cd cY).kindOf (Str.ofString "_law_is_refused") = some .globalImplicit := by with_unfolding_all rfl)
    (he : starEach [.Lambda params body lscope lpos] (envY name scope L a cd cY) = (false, eval (.Lambda params body lscope lpos) (envY name scope L a cd cY)) :: starEach [] (envY name scope L a cd cY) := by with_unfolding_all rfl) :
    wpAny (model pw c.w) A (execs (.If (.BoolOp .And [e1, .UnaryOp .Not e pos2] pos3) bd [] ipos :: rest) (envY name scope L a cd cY)) QF E (Mk s h t) := by
  subst hE
  refine x_if (isTrue_and (H1.run S fun b h t hb0 S => ?_))
  subst hb0
  cases b with
  | false => exact ⟨fun q => (nomatch q), fun _ => x_nilN (K ls h t (.inl rfl) S)⟩
  | true => exact isTrue_and (isTrue_not (isTrue_plain (x_refused S hcd (hb _ S) hn C hdef hcl (HR rfl) (fun h t S => wpAny_truthy_bool ⟨(fun q => (nomatch q)), fun _ => x_nilN (K _ h t (.inr rfl) S)⟩) hk hl he) rfl))
end
theorem rows_items (ix : List (Nat × Val)) (un : List (Int × List Int)) : (ix.map fun q => rowB q.1 (encV q.2)).reverse ++ un.map (fun q => rowB q.1 q.2) = (ix.reverse.map itemOf ++ un).map fun q => rowB q.1 q.2 := by
  rw [← List.map_reverse, List.map_append, List.map_map]; rfl
theorem rows_first {ix iy : List (Nat × Val)} {un : List (Int × List Int)} {xs : List Value} (p : iy.Perm ix) (hb : BL ((ix.map fun q => rowB q.1 (encV q.2)).reverse ++ un.map fun q => rowB q.1 q.2) xs) (hx : (!xs.isEmpty) = true) : ∃ q v, q ∈ iy.map itemOf ++ un ∧ xs[0]? = some v ∧ vB (rowB q.1 q.2) v := by
  rw [rows_items] at hb
  have hl := hb.len
  rw [List.length_map] at hl
  have : 0 < xs.length := by
    cases xs with
    | nil => cases hx
    | cons _ _ => exact Nat.succ_pos _
  have h0 : 0 < (ix.reverse.map itemOf ++ un).length := by (first | lia | omega)
  obtain ⟨b, u, e1, e2⟩ := hb.get (i := 0) (by rw [List.getElem?_map, List.getElem?_eq_getElem h0]; rfl)
  refine ⟨(ix.reverse.map itemOf ++ un)[0], _, ?_, e1, b, u, rfl, e2⟩
  have hm := List.getElem_mem h0
  have pp : (ix.reverse.map itemOf ++ un).Perm (iy.map itemOf ++ un) := (((List.reverse_perm ix).trans p.symm).map itemOf).append_right un
  exact pp.mem_iff.mp hm


-- F57
section
variable {np pos pos2 p1 p2 p3 p4 p5 p6 : Pos} {k0 : Nat} {a1 a2 a3 a4 a5 : Expr} {h1 : Heap} {d : Addr} {kvs : List (Str × Value)} {role : Str} {i o r source original retry : Option (List Int)}
theorem e_checked (H1 : Ev c outer D h0 L m led A (envY name scope L a cd cY) a1 (· = .ref d)) (hdd : ∀ h, St c outer D h0 L m led h → At h d (Dct c kvs) ∧ d ∉ fsOf (envY name scope L a cd cY :: outer)) (ds : (d == sysModules) = false)
    (H2 : Ev c outer D h0 L m led A (envY name scope L a cd cY) a2 (vS role)) (H3 : Ev c outer D h0 L m led A (envY name scope L a cd cY) a3 (OB original)) (H4 : Ev c outer D h0 L m led A (envY name scope L a cd cY) a4 (OB source)) (H5 : Ev c outer D h0 L m led A (envY name scope L a cd cY) a5 (OB retry))
    (hi : OB i (idAt kvs "initial_source_connection_id")) (ho : OB o (idAt kvs "original_destination_connection_id")) (hr : OB r (idAt kvs "retry_source_connection_id")) (hok : okIds role i o r source original retry = true) (C : Cx c (n + 4) A (envY name scope L a cd cY :: outer) h1 none)
    (hk : scope.kind = .function := by with_unfolding_all rfl) (hl : (envY name scope L a cd cY).kindOf (Str.ofString "checked_ids") = some .globalImplicit := by with_unfolding_all rfl)
    (he1 : starEach [a1, a2, a3, a4, a5] (envY name scope L a cd cY) = (false, eval a1 (envY name scope L a cd cY)) :: starEach [a2, a3, a4, a5] (envY name scope L a cd cY) := by with_unfolding_all rfl)
    (he2 : starEach [a2, a3, a4, a5] (envY name scope L a cd cY) = (false, eval a2 (envY name scope L a cd cY)) :: starEach [a3, a4, a5] (envY name scope L a cd cY) := by with_unfolding_all rfl)
    (he3 : starEach [a3, a4, a5] (envY name scope L a cd cY) = (false, eval a3 (envY name scope L a cd cY)) :: starEach [a4, a5] (envY name scope L a cd cY) := by with_unfolding_all rfl)
    (he4 : starEach [a4, a5] (envY name scope L a cd cY) = (false, eval a4 (envY name scope L a cd cY)) :: starEach [a5] (envY name scope L a cd cY) := by with_unfolding_all rfl)
    (he5 : starEach [a5] (envY name scope L a cd cY) = (false, eval a5 (envY name scope L a cd cY)) :: starEach [] (envY name scope L a cd cY) := by with_unfolding_all rfl)
    (hp : (backTo pos (starEach [a2, a3, a4, a5] (envY name scope L a cd cY))).any (·.1) = false := by with_unfolding_all rfl) :
    Ev c outer D h0 L m led A (envY name scope L a cd cY) (.Call (.Name (Str.ofString "checked_ids") np) [a1, a2, a3, a4, a5] [] pos) (· = .none) := by
  refine .mk fun S K => x_call (x_glob S (g_checked_ids S.g) (x_cw (K := hd.heap_1 c.w.params) (by rfl) (x_arg (H1.run S fun v1 h t q1 S => x_arg (H2.run S fun v2 h t ⟨u2, q2⟩ S => x_arg (H3.run S fun v3 h t q3 S => x_arg (H4.run S fun v4 h t q4 S => x_arg (H5.run S fun v5 h t q5 S => x_argN ⟨S.g.X, ?_⟩) he5) he4) he3) he2) he1) he1 hp) hk hl)
  subst q1 q2
  refine spec_checked_ids (n := n) (hdd _ S).1 (hdd _ S).2 ds hi ho hr q4 q3 q5 (S.cx C rfl hk) S.g (fun _ h t R => ?_) (fun e => by rw [hok] at e; cases e)
  exact K _ _ _ rfl (S.ret0 R)
end
theorem Ev.toOB {e : Expr} {ks : List Int} (H : Ev c outer D h0 L m led A env e (vB ks)) : Ev c outer D h0 L m led A env e (OB (some ks)) := H.mono fun v ⟨b, u, q, hb⟩ => q ▸ .some u hb
theorem e_noneO {k : Nat} {pos : Pos} : Ev c outer D h0 L m led A env (.Constant .none k pos) (OB none) := e_none.mono fun v q => q ▸ .none
theorem ne_same {l b : Addr} {xs : List Value} (hl : At h l (Lst xs)) (hb : At h b (Lst xs)) (hu : A.units < cLine) (K : Q (.bool false) (Mk s h t)) : wpAny (model p w) A (compareOp .NotEq (.ref l) (.ref b)) Q E (Mk s h t) :=
  SeqAt.RcNeAt.lists (A := A) (s := Mk s h t) (e := fun _ => true) hl.list hb.list rfl hu (fun j j1 _ => SeqAt.EqAt.same _) p w E Q (by
    have : ((List.range xs.toArray.size).all (fun _ => true)) = true := by simp
    rw [this]; exact K)
theorem b_neSame {e1 e2 : Expr} {l : Addr} {xs : List Value} {p5 : Pos} (H1 : Ev c outer D h0 L m led A env e1 (· = .ref l)) (ha : ∀ h, St c outer D h0 L m led h → At h l (Lst xs)) (H2 : EvL c outer D h0 L m led A env e2 (· = xs)) (hu : A.units < cLine) (hm : behindInMarks .NotEq e2 = false := by first | rfl | with_unfolding_all rfl) : Tb c outer D h0 L m led A env (.Compare e1 [.NotEq] [e2] p5) (· = false) :=
  .mk fun S K => wpAny_isTrue_Compare1 (H1.run S fun v h t q S => H2.run S fun B ys h t hy B0 S => by
    subst q hy
    have S0 := S.drop 1
    exact ne_same (ha _ S0) S.head.ln hu (wpAny_truthy_bool (K _ _ _ rfl S0))) hm
section
variable {params params2 : Arguments} {body body2 : Expr} {lscope lscope2 : Scope} {np lpos pos np2 lpos2 pos2 pos3 rpos : Pos} {ls : List (Nat × Nat)} {clos clos2 : List (Str × Addr)} {h1 : Heap}
theorem x_retRefs {rest : List Stmt} {QF : Flow → Shared → Prop} (S : St c outer D h0 L m ((348, TabP ls) :: led) h) (hcd : cd = .ref 350) (hb : ∀ {ls h}, St c outer D h0 L m ((348, TabP ls) :: led) h → h.BuiltinsAt c.mg 348) (hn : (lpos.line, lpos.col) ∉ ls) (hn2 : (lpos2.line, lpos2.col) ∉ (lpos.line, lpos.col) :: ls) (C : Cx c (n + 3) A (envY name scope L a cd cY :: outer) h1 none)
    (hdef : defaultsOf params (envY name scope L a cd cY) = ([], [])) (hcl : closureFor lscope (envY name scope L a cd cY) = pure clos) (hdef2 : defaultsOf params2 (envY name scope L a cd cY) = ([], [])) (hcl2 : closureFor lscope2 (envY name scope L a cd cY) = pure clos2)
    (HR : ∀ f c' h', St c outer D h0 L m ((f, LamK ((envY name scope L a cd cY).qual ++ Str.ofString "<lambda>") params body lscope clos c') :: (c', CodK ((envY name scope L a cd cY).qual ++ Str.ofString "<lambda>")) :: (348, TabP ((lpos.line, lpos.col) :: ls)) :: led) h' → Refused c (n + 1) (envY name scope L a cd cY :: outer) h' f)
    (HR2 : ∀ tl f c' h', St c outer D h0 L m ((f, LamK ((envY name scope L a cd cY).qual ++ Str.ofString "<lambda>") params2 body2 lscope2 clos2 c') :: (c', CodK ((envY name scope L a cd cY).qual ++ Str.ofString "<lambda>")) :: (348, TabP tl) :: led) h' → Refused c (n + 1) (envY name scope L a cd cY :: outer) h' f)
    (K : ∀ tl h' t', St c outer D h0 L m ((348, TabP tl) :: led) h' → QF (.ret (.bool true)) (Mk s h' t'))
    {e e2 : Expr} (hE : e = .Call (.Name (Str.ofString "_law_is_refused") np) [.Lambda params body lscope lpos] [] pos) (hE2 : e2 = .Call (.Name (Str.ofString "_law_is_refused") np2) [.Lambda params2 body2 lscope2 lpos2] [] pos2) (hk : scope.kind = .function := by with_unfolding_all rfl) (hl : (envY name scope L a cd cY).kindOf (Str.ofString "_law_is_refused") = some .globalImplicit := by with_unfolding_all rfl)
    (he : starEach [.Lambda params body lscope lpos] (envY name scope L a cd cY) = (false, eval (.Lambda params body lscope lpos) (envY name scope L a cd cY)) :: starEach [] (envY name scope L a cd cY) := by with_unfolding_all rfl)
    (he2 : starEach [.Lambda params2 body2 lscope2 lpos2] (envY name scope L a cd cY) = (false, eval (.Lambda params2 body2 lscope2 lpos2) (envY name scope L a cd cY)) :: starEach [] (envY name scope L a cd cY) := by with_unfolding_all rfl) :
    wpAny (model pw c.w) A (execs (.Return (some (.BoolOp .And [e, e2] pos3)) rpos :: rest) (envY name scope L a cd cY)) QF E (Mk s h t) := by
  subst hE hE2
  exact x_ret (wpAny_And2 (x_refused S hcd (hb S) hn C hdef hcl HR (fun h t S => wpAny_truthy_bool (x_refused S hcd (hb S) hn2 C hdef2 hcl2 (HR2 _) (fun h t S => K _ h t S) hk hl he2)) hk hl he))
end
theorem cell_of {cx : List (Str × Addr)} {x : Str} {r : List Str} (h : cx.map (·.1) = x :: r) : ∃ b cx', cx = (x, b) :: cx' ∧ cx'.map (·.1) = r := by
  cases cx with
  | nil => cases h
  | cons q cx => cases h; exact ⟨q.2, cx, rfl, rfl⟩
theorem cells_six {cx : List (Str × Addr)} {x1 x2 x3 x4 x5 x6 : Str} (h : cx.map (·.1) = [x1, x2, x3, x4, x5, x6]) : ∃ b1 b2 b3 b4 b5 b6, cx = [(x1, b1), (x2, b2), (x3, b3), (x4, b4), (x5, b5), (x6, b6)] := by
  obtain ⟨b1, c1, rfl, h1⟩ := cell_of h
  obtain ⟨b2, c2, rfl, h2⟩ := cell_of h1
  obtain ⟨b3, c3, rfl, h3⟩ := cell_of h2
  obtain ⟨b4, c4, rfl, h4⟩ := cell_of h3
  obtain ⟨b5, c5, rfl, h5⟩ := cell_of h4
  obtain ⟨b6, c6, rfl, h6⟩ := cell_of h5
  exact ⟨b1, b2, b3, b4, b5, b6, by rw [List.map_eq_nil_iff.mp h6]⟩


-- F55
section
variable {Q : Flow → Shared → Prop} {rest : List Stmt}
theorem p_asgT {elts : List Expr} {k : Nat} {tpos pos : Pos} {value : Expr}
    (H : wpAny M A (eval value env) (fun v s₁ => wpAny M A (assign (.Tuple elts k tpos) env v) (fun _ s₂ => wpC M A (execs rest env) Q E s₂) E s₁) E s)
    (hs : swapsWithSole [.Tuple elts k tpos] value pos.line env = pure false := by with_unfolding_all rfl)
    (hw : swappedStores [.Tuple elts k tpos] value env = pure none := by with_unfolding_all rfl) : wpC M A (execs (.Assign [.Tuple elts k tpos] value pos :: rest) env) Q E s := p_consA (Assign_Tuple H hs hw)
end
theorem a_cell {x : Str} {ps : Pos} {es : List Expr} {v : Value} {vs : List Value} {v0 : Option Value} {B : Addr} {QU : Unit → Shared → Prop} (hc : cY.lookup x = some B) (S : St c outer D h0 L m ((B, Cel v0) :: led) h)
    (H : ∀ h', St c outer D h0 L m ((B, Cel (some v)) :: led) h' → wpAny (model p w) A (assignInOrder ((assignEach es (envY name scope L a cd cY)).map (·.2)) vs) QU E (Mk s h' t))
    (hk : scope.kind = .function := by with_unfolding_all rfl) (hl : (envY name scope L a cd cY).kindOf x = some .cell := by with_unfolding_all rfl)
    (he : (assignEach (.Name x ps :: es) (envY name scope L a cd cY)).map (·.2) = assign (.Name x ps) (envY name scope L a cd cY) :: (assignEach es (envY name scope L a cd cY)).map (·.2) := by with_unfolding_all rfl) :
    wpAny (model p w) A (assignInOrder ((assignEach (.Name x ps :: es) (envY name scope L a cd cY)).map (·.2)) (v :: vs)) QU E (Mk s h t) := by
  rw [he]
  exact assignInOrder_cons (wpAny_assign_Name (x_storeCell hc S (fun h' S' => H h' S') hk hl))
noncomputable def BmK : Kd := fun o => o.cls = .type "module" ∧ o.dict = some builtinsNs ∧ o.data = .plain
noncomputable def BmOk (c : Ct) (bm : Addr) : Prop := c.mg (Str.ofString "__builtins__") = some (.ref bm) ∧ bm ≠ builtinsNs ∧ bm ≠ mainGlobals ∧ bm ≠ 348
theorem BmOk.at {bm : Addr} (b : BmOk c bm) (ha : At h bm BmK) : h.BuiltinsAt c.mg 348 := by
  obtain ⟨o, ho, h1, h2, h3⟩ := ha
  exact ⟨bm, o, b.1, b.2.1, b.2.2.1, b.2.2.2, ho, h1, h2, h3⟩
theorem St.oldD {k : Kd} (S : St c outer D h0 L m led h) (ha : At h0 a k) (nD : a ∉ D) (nF : a ∉ fsOf outer) (hf : env.frame = some L) : At h a k ∧ a ∉ fsOf (env :: outer) := by
  refine ⟨S.ext.at ha nD nF, ?_⟩
  rw [fs_cons hf]
  intro q
  rcases List.mem_cons.mp q with q | q
  · subst q; exact ha.nn S.Lf
  · exact nF q
theorem unk_menu {T1 T2 : Addr} {a j : Int} (a0 : 58 ≤ a) (a1 : a ≤ 1000) (a2 : a ≠ 209) (j0 : 0 ≤ j) (j3 : j < 3) : ∃ (Us : List Addr) (un : List (Int × List Int)), slicePick [Value.ref T1, .ref T2].toArray none (some j) none = (Us.map .ref).toArray ∧ Us.length = un.length ∧ (∀ p ∈ PLd Us un, p = (T1, PK (a, [107, 101, 112, 116])) ∨ p = (T2, PK (17 + 64 * 3, []))) ∧ UnOk un := by
  have h : j = 0 ∨ j = 1 ∨ j = 2 := ilt3 j0 j3
  rcases h with rfl | rfl | rfl
  · exact ⟨[], [], rfl, rfl, fun p hp => (nomatch hp), ⟨fun q hq => (nomatch hq), List.nodup_nil, by decide⟩⟩
  · refine ⟨[T1], [(a, [107, 101, 112, 116])], rfl, rfl, fun p hp => .inl (List.mem_singleton.mp hp), ⟨fun q hq => ?_, by simp, Nat.le_of_ble_eq_true rfl⟩⟩
    rw [List.mem_singleton.mp hq]; exact ⟨by show 17 ≤ a; (first | lia | omega), by show a < 2 ^ 62; (first | lia | omega), Nat.le_of_ble_eq_true rfl⟩
  · refine ⟨[T1, T2], [(a, [107, 101, 112, 116]), (17 + 64 * 3, [])], rfl, rfl, fun p hp => ?_, ⟨fun q hq => ?_, ?_, Nat.le_of_ble_eq_true rfl⟩⟩
    · rcases List.mem_cons.mp hp with h | h
      · exact .inl h
      · exact .inr (List.mem_singleton.mp h)
    · rcases List.mem_cons.mp hq with rfl | h
      · exact ⟨by show 17 ≤ a; (first | lia | omega), by show a < 2 ^ 62; (first | lia | omega), Nat.le_of_ble_eq_true rfl⟩
      · rw [List.mem_singleton.mp h]; decide
    · exact List.nodup_cons.mpr ⟨fun h => a2 (List.mem_singleton.mp h), List.nodup_cons.mpr ⟨List.not_mem_nil, List.nodup_nil⟩⟩
set_option maxHeartbeats 8000000 in
theorem spec_law {hB : Heap} {W bm : Addr} {ws : List Value} (hW : At hB W (Lst ws)) (nW : W ∉ fsOf outer) (hi : Ints ws) (hz : ws.length ≤ 63) (hbo : BmOk c bm) (hbm : At hB bm BmK) (nbm : bm ∉ fsOf outer) (C : Cx c (n + 12) A outer hB none) (g : G c hB) (P : Pre c (fsOf outer) hB [(348, TabP [])])
    (K : ∀ ls h' t', Ret c (fsOf outer) hB [(348, TabP ls)] [] h' → Q (.bool true) (Mk s h' t')) :
    wpC (model pw c.w) A (call (.ref 351) [.ref W]) Q E (Mk s hB t) := by
  refine enterXC (binds := [(Str.ofString "script", .ref W)]) C g P (by rfl) (by rfl) rfl (fun k => ⟨.inl rfl, trivial⟩) (by decide +kernel) (fun L cx h t m cm QF EF A' hm hcm hcx hQ hN S C2 => ?_)
  obtain ⟨Bw, Br, Bi, Bb, Bv, Bn, rfl⟩ : ∃ b1 b2 b3 b4 b5 b6, cx = [(Str.ofString "whole", b1), (Str.ofString "rows", b2), (Str.ofString "ids", b3), (Str.ofString "bent", b4), (Str.ofString "value", b5), (Str.ofString "number", b6)] := cells_six hcx
  have f1 : m (Str.ofString "script") = some (.ref W) := (hm _).trans rfl
  have hn : ∀ x, cm x = none := fun x => by
    rw [hcm]; rfl
  have S : St c outer [348] hB L m [(Bw, Cel (cm (Str.ofString "whole"))), (Br, Cel (cm (Str.ofString "rows"))), (Bi, Cel (cm (Str.ofString "ids"))), (Bb, Cel (cm (Str.ofString "bent"))), (Bv, Cel (cm (Str.ofString "value"))), (Bn, Cel (cm (Str.ofString "number"))), (348, TabP [])] h := S
  rw [hn, hn, hn, hn, hn, hn] at S
  clear hm hcm hcx hn
  refine p_asg (wpC_of ?_)
  refine x_call (x_glob S (g_law_box S.g) (x_cw (K := hd.heap_1 c.w.params) (by rfl) (x_arg (x_loc S f1 (x_argN ⟨S.g.X, ?_⟩)))))
  have w348 : W ∉ [348] := fun q => by
    obtain rfl := List.mem_singleton.mp q
    obtain ⟨o, e, hc, _⟩ := hW
    obtain ⟨o', e', ps, rfl, _⟩ := P.at_ _ (List.mem_cons_self ..)
    rw [e] at e'; cases e'; cases hc
  obtain ⟨hW1, nW1⟩ := S.oldD (env := envY (Str.ofString "law") _ L 351 (.ref 350) _) hW w348 nW rfl
  refine spec_law_box (n := n + 10) hW1 nW1 hi hz (S.cx C2) S.g (fun box sb h t R => ?_)
  have S := S.ret (pre := []) R rfl
  refine x_store S (fun h t S => ?_)
  obtain ⟨m1, em, S⟩ := S.op
  have fb : m1 (Str.ofString "box") = some (.ref box) := by rw [em]; exact if_pos rfl
  clear em f1
  have S : St c outer [348] hB L m1 (BxL box sb ++ [(Bw, Cel none), (Br, Cel none), (Bi, Cel none), (Bb, Cel none), (Bv, Cel none), (Bn, Cel none), (348, TabP [])]) h := S
  refine p_asgT ?_
  refine x_call (x_glob S (g_law_drawn S.g) (x_cw (K := hd.heap_1 c.w.params) (by rfl) (x_arg (x_loc S fb (x_argN ⟨S.g.X, ?_⟩)))))
  refine spec_law_drawn (n := n + 8) (S.cx C2) S.g (S.toPre (pre := BxL box sb)) (fun T d R ix kvs rs vl h t ds TT Rt => ?_)
  have S := S.ret (pre := BxL box sb) Rt rfl
  have S : St c outer [348] hB L m1 ([(T, Tup [.ref d, .ref R]), (d, Dct c kvs), (R, LN rs)] ++ ([(box, Bx sb), (sb, Sq), (Bw, Cel none), (Br, Cel none), (Bi, Cel none), (Bb, Cel none), (Bv, Cel none), (Bn, Cel none), (348, TabP [])] ++ vl)) h := S.perm (List.Perm.append_left [(T, Tup [.ref d, .ref R]), (d, Dct c kvs), (R, LN rs)] List.perm_append_comm)
  refine x_unp S (S.get 0 rfl) C2.hd (fun h S _ => ?_)
  refine a_name S (fun h t S => ?_)
  refine a_cell rfl (S.front 6 rfl) (fun h S => ?_)
  refine a_nil ?_
  obtain ⟨m2, em, S⟩ := S.op
  have fb : m2 (Str.ofString "box") = some (.ref box) := by rw [em]; exact (if_neg (by decide)).trans fb
  have ft : m2 (Str.ofString "told") = some (.ref d) := by rw [em]; exact if_pos rfl
  clear em
  have S : St c outer [348] hB L m2 ((BxL box sb ++ [(348, TabP []), (d, Dct c kvs), (R, LN rs), (Br, Cel (some (.ref R))), (Bw, Cel none), (Bi, Cel none), (Bb, Cel none), (Bv, Cel none), (Bn, Cel none)]) ++ vl) h :=
    St.pickA (X := [(Br, Cel (some (.ref R))), (T, Tup [.ref d, .ref R]), (d, Dct c kvs), (R, LN rs), (box, Bx sb), (sb, Sq), (Bw, Cel none), (Bi, Cel none), (Bb, Cel none), (Bv, Cel none), (Bn, Cel none), (348, TabP [])]) S [4, 5, 11, 2, 3, 0, 6, 7, 8, 9, 10]
  have S : St c outer [348] hB L m2 (BxL box sb ++ ([(348, TabP []), (d, Dct c kvs), (R, LN rs), (Br, Cel (some (.ref R))), (Bw, Cel none), (Bi, Cel none), (Bb, Cel none), (Bv, Cel none), (Bn, Cel none)] ++ vl)) h := S
  have C1 := C2.le (k := n + 1) (by exact Nat.le_add_right _ 10)
  refine p_asg (wpC_of (Subscript_ (x_lstQ ?_)))
  refine x_arg (x_tupQ (x_arg (S.run (e_addP (p3 := fun a => ∃ r, 0 ≤ r ∧ r < 9 ∧ a = 31 * r + 58) (e_mulP (p3 := fun a => ∃ r, 0 ≤ r ∧ r < 9 ∧ a = 31 * r) (Ev.mono e_int (vP.of (p1 := (· = 31)) rfl)) (e_modK (e_nextW (e_loc fb) C1)) (fun a b ha hb => by subst ha; exact IntMulOk.of_left (by decide)) fun a b ha hb => by subst ha; exact ⟨b, hb.1, hb.2, rfl⟩)
    (Ev.mono e_int (vP.of (p1 := (· = 58)) rfl)) (fun a b ⟨r, r0, r1, e⟩ hb => by subst hb; exact ⟨r, r0, r1, by (first | lia | omega)⟩)) (fun v h t q S => ?_))))
  obtain ⟨ua, uu, rfl, r, r0, r1, rfl⟩ := q
  refine x_arg (S.run (e_byt (ks := [107, 101, 112, 116])) (fun v h t q S => x_argN (mk_tupQ S (Nat.le_of_ble_eq_true rfl) (fun T1 h t10 S _ => ?_))))
  obtain ⟨bk, uk, rfl, hbk⟩ := q
  refine x_arg (x_tupQ (x_arg (S.run (e_add e_int (e_mul e_int e_int (IntMulOk.of_left (by decide)))) (fun v h t q S => ?_))))
  obtain ⟨u9, rfl⟩ := q
  refine x_arg (S.run (e_byt (ks := [])) (fun v h t q S => x_argN (mk_tupQ S (Nat.le_of_ble_eq_true rfl) (fun T2 h t20 S _ => ?_))))
  obtain ⟨be, ue, rfl, hbe⟩ := q
  refine x_argN (mk_listN S (Nat.le_of_ble_eq_true rfl) (fun F h f0 S _ => ?_))
  refine wpAny_Slice (wpAny_pure ?_)
  have S : St c outer [348] hB L m2 (BxL box sb ++ ([(F, LN [.ref T1, .ref T2]), (T2, Tup [.int (17 + 64 * 3) u9, .bytes be ue]), (T1, Tup [.int (31 * r + 58) uu, .bytes bk uk]), (348, TabP []), (d, Dct c kvs), (R, LN rs), (Br, Cel (some (.ref R))), (Bw, Cel none), (Bi, Cel none), (Bb, Cel none), (Bv, Cel none), (Bn, Cel none)] ++ vl)) h :=
    St.pickA (X := [(F, LN [.ref T1, .ref T2]), (T2, Tup [.int (17 + 64 * 3) u9, .bytes be ue]), (T1, Tup [.int (31 * r + 58) uu, .bytes bk uk]), (box, Bx sb), (sb, Sq), (348, TabP []), (d, Dct c kvs), (R, LN rs), (Br, Cel (some (.ref R))), (Bw, Cel none), (Bi, Cel none), (Bb, Cel none), (Bv, Cel none), (Bn, Cel none)]) S [3, 4, 0, 1, 2, 5, 6, 7, 8, 9, 10, 11, 12, 13]
  refine S.run (e_modK (e_nextW (e_loc fb) C1)) (fun v h t q S => ?_)
  obtain ⟨j, uj, rfl, j0, j3⟩ := q
  refine wpAny_pure ?_
  have hF := (S.get 2 rfl : At h F (LN [.ref T1, .ref T2])).ln.list
  refine tail_any (s := Mk _ (h.push { cls := .type "slice", data := .fields #[.none, .int j uj, .none] }) t) (Heap.IsList.typeIs (s := Mk _ (h.push { cls := .type "slice", data := .fields #[.none, .int j uj, .none] }) t) (hF.push _)) list_getitem_lookup
    (wpAny_getItem_list_slice (s := Mk _ (h.push { cls := .type "slice", data := .fields #[.none, .int j uj, .none] }) t) (hF.push _) (Heap.IsSliceOf.new ..) .none (.int j uj) .none (fun q => nomatch q) ?_ (by rw [sizeLine_eq]; exact Nat.le_of_ble_eq_true rfl)) (by with_unfolding_all rfl)
  obtain ⟨Us, un, eUs, eU, hUs, hun⟩ : ∃ (Us : List Addr) (un : List (Int × List Int)), slicePick [Value.ref T1, .ref T2].toArray none (some j) none = (Us.map .ref).toArray ∧ Us.length = un.length ∧ (∀ p ∈ PLd Us un, p = (T1, PK (31 * r + 58, [107, 101, 112, 116])) ∨ p = (T2, PK (17 + 64 * 3, []))) ∧ UnOk un := by
    have := unk_menu (T1 := T1) (T2 := T2) (a := 31 * r + 58) (j := j) (by (first | lia | omega)) (by (first | lia | omega)) (by (first | lia | omega)) j0 j3
    exact this
  rw [eUs]
  have S1 := S.keep (h' := h.push { cls := .type "slice", data := .fields #[.none, .int j uj, .none] }) fun b o e => Heap.get?_push_of_some _ e
  have S2 := S1.push { cls := .type "list", data := .seq (Us.map .ref).toArray } (LN (Us.map .ref)) ⟨rfl, rfl, _, rfl⟩
  have U0 := S1.old (new_size (h.push { cls := .type "slice", data := .fields #[.none, .int j uj, .none] }))
  obtain ⟨U, eqU⟩ : ∃ U, U = (h.push { cls := .type "slice", data := .fields #[.none, .int j uj, .none] }).objs.size := ⟨_, rfl⟩
  rw [← eqU] at S2 U0
  refine x_store S2 (fun h t S => ?_)
  obtain ⟨m3, em, S⟩ := S.op
  have fb : m3 (Str.ofString "box") = some (.ref box) := by rw [em]; exact (if_neg (by decide)).trans fb
  have ft : m3 (Str.ofString "told") = some (.ref d) := by rw [em]; exact (if_neg (by decide)).trans ft
  have fu : m3 (Str.ofString "unknown") = some (.ref U) := by rw [em, eqU]; exact if_pos rfl
  clear em eqU eUs S1 hF
  have S : St c outer [348] hB L m3 (BxL box sb ++ ([(T2, Tup [.int (17 + 64 * 3) u9, .bytes be ue]), (T1, Tup [.int (31 * r + 58) uu, .bytes bk uk]), (U, LN (Us.map .ref)), (348, TabP []), (d, Dct c kvs), (R, LN rs), (Br, Cel (some (.ref R))), (Bw, Cel none), (Bi, Cel none), (Bb, Cel none), (Bv, Cel none), (Bn, Cel none)] ++ vl)) h :=
    St.pickA (X := [(U, LN (Us.map .ref)), (box, Bx sb), (sb, Sq), (F, LN [.ref T1, .ref T2]), (T2, Tup [.int (17 + 64 * 3) u9, .bytes be ue]), (T1, Tup [.int (31 * r + 58) uu, .bytes bk uk]), (348, TabP []), (d, Dct c kvs), (R, LN rs), (Br, Cel (some (.ref R))), (Bw, Cel none), (Bi, Cel none), (Bb, Cel none), (Bv, Cel none), (Bn, Cel none)]) S [1, 2, 4, 5, 0, 6, 7, 8, 9, 10, 11, 12, 13, 14]
  have S : St c outer [348] hB L m3 (BxL box sb ++ ([(T2, PK (17 + 64 * 3, [])), (T1, PK (31 * r + 58, [107, 101, 112, 116])), (U, LN (Us.map .ref)), (348, TabP []), (d, Dct c kvs), (R, LN rs), (Br, Cel (some (.ref R))), (Bw, Cel none), (Bi, Cel none), (Bb, Cel none), (Bv, Cel none), (Bn, Cel none)] ++ vl)) h := S.weak rfl (fun p hp => ?_)
  rotate_left
  · by_cases q1 : p = (T2, PK (17 + 64 * 3, []))
    · subst q1
      obtain ⟨o, e, z⟩ := S.get (a := T2) 2 rfl
      exact ⟨o, e, u9, be, ue, z, hbe⟩
    · by_cases q2 : p = (T1, PK (31 * r + 58, [107, 101, 112, 116]))
      · subst q2
        obtain ⟨o, e, z⟩ := S.get (a := T1) 3 rfl
        exact ⟨o, e, uu, bk, uk, z, hbk⟩
      · refine S.lat p ?_
        rcases List.mem_cons.mp hp with h | hp
        · exact h ▸ List.mem_cons_self ..
        rcases List.mem_cons.mp hp with h | hp
        · exact h ▸ List.mem_cons_of_mem _ (List.mem_cons_self ..)
        rcases List.mem_cons.mp hp with h | hp
        · exact absurd h q1
        rcases List.mem_cons.mp hp with h | hp
        · exact absurd h q2
        exact List.mem_cons_of_mem _ (List.mem_cons_of_mem _ (List.mem_cons_of_mem _ (List.mem_cons_of_mem _ hp)))
  clear hbe hbk
  have ixo := TT.ixok
  have ukv : valueAt kvs UNK = none := valueAt_none_of_not_mem (by rw [TT.dl.keys]; exact named_unk ixo)
  refine p_asg ?_
  refine p_call (x_glob S (g_put_params S.g) (p_cw (K := hd.heap_1 c.w.params) (by rfl) (x_arg ?_)))
  refine x_call (x_blt S (b_dict S.g) (x_cwT (x_arg (wpAny_BinOp ?_))))
  refine x_call (x_blt S (b_list S.g) (x_cwT (x_arg (x_callA (x_loc S ft (m_dict (S.get 6 rfl) PySem.F.slot_dict_items PySem.F.type_dict_items (x_cwB01 (k_view S (S.get 6 rfl) ds (fun V h V0 S => ?_)))))))))
  refine x_argN (k_items S S.head (S.get 7 rfl) C2.hd (by have := TT.len; (first | lia | omega)) (fun F2 as h t las F20 S => ?_))
  have S : St c outer [348] hB L m3 ((F2, LN (as.map .ref)) :: (((V, fun o => o.cls = .type "dict_items" ∧ o.data = Data.fields #[.ref d]) :: (BxL box sb ++ ([(T2, PK (17 + 64 * 3, [])), (T1, PK (31 * r + 58, [107, 101, 112, 116])), (U, LN (Us.map .ref)), (348, TabP []), (d, Dct c kvs), (R, LN rs), (Br, Cel (some (.ref R))), (Bw, Cel none), (Bi, Cel none), (Bb, Cel none), (Bv, Cel none), (Bn, Cel none)] ++ vl))) ++ KVL as kvs)) h := S.perm (List.Perm.cons _ List.perm_append_comm)
  refine x_lstQ (x_arg (x_tupQ (x_arg (i_str fun uu2 t => x_arg (x_loc S fu (x_argN (mk_tupQ S (Nat.le_of_ble_eq_true rfl) (fun TU h tu0 S _ => ?_))))))))
  refine x_argN (mk_listN S (Nat.le_of_ble_eq_true rfl) (fun F3 h F30 S _ => ?_))
  refine add_LN S (S.get 2 rfl : At h F2 (LN (as.map .ref))).ln S.head.ln (by rw [List.length_map]; have := TT.len; simp; (first | lia | omega)) (fun F4 h F40 S => ?_)
  refine x_argN (k_dict (kvs := kvs ++ [(UNK, .ref U)]) S S.head C2.hd (by simp [las]) (by have := TT.len; simp; (first | lia | omega)) ?_ (fun i v q hv hq => ?_) (fun d2 h t d20 d2s S => ?_))
  · rw [List.map_append, List.nodup_append]
    refine ⟨by rw [TT.dl.keys]; exact named_nodup ixo, List.nodup_cons.mpr ⟨List.not_mem_nil, List.nodup_nil⟩, fun a ha b hb e => ?_⟩
    rw [List.mem_singleton.mp hb] at e
    subst e
    rw [TT.dl.keys] at ha
    exact named_unk ixo ha
  · rcases Nat.lt_or_ge i as.length with z | z
    · rw [List.getElem?_append_left (by rw [List.length_map]; exact z), List.getElem?_map] at hv
      rw [List.getElem?_append_left (by (first | lia | omega))] at hq
      obtain ⟨Ta, hTa, rfl⟩ := Option.map_eq_some_iff.mp hv
      obtain ⟨o, e, uq, z2⟩ := S.lat (Ta, KVk q) (List.mem_cons_of_mem _ (List.mem_cons_of_mem _ (List.mem_cons_of_mem _ (List.mem_cons_of_mem _ (List.mem_append_right _ (KVL_at hTa hq))))))
      exact ⟨Ta, uq, rfl, o, e, z2⟩
    · rw [List.getElem?_append_right (by rw [List.length_map]; exact z), List.length_map] at hv
      rw [List.getElem?_append_right (by (first | lia | omega)), ← las] at hq
      obtain ⟨k0, hk0⟩ : ∃ k0, i - as.length = k0 := ⟨_, rfl⟩
      rw [hk0] at hv hq
      match k0, hv, hq with
      | 0, hv, hq =>
        cases hv; cases hq
        exact ⟨TU, uu2, rfl, S.get 2 rfl⟩
      | k0 + 1, hv, _ => simp at hv
  have S : St c outer [348] hB L m3 (BxL box sb ++ ([(d2, Dct c (kvs ++ [(UNK, .ref U)])), (T2, PK (17 + 64 * 3, [])), (T1, PK (31 * r + 58, [107, 101, 112, 116])), (U, LN (Us.map .ref)), (348, TabP []), (d, Dct c kvs), (R, LN rs), (Br, Cel (some (.ref R))), (Bw, Cel none), (Bi, Cel none), (Bb, Cel none), (Bv, Cel none), (Bn, Cel none)] ++ (vl ++ KVL as kvs))) h :=
    St.pickA (X := [(d2, Dct c (kvs ++ [(UNK, .ref U)])), (F4, LN (as.map .ref ++ [.ref TU])), (F3, LN [.ref TU]), (TU, Tup [.str UNK uu2, .ref U]), (F2, LN (as.map .ref)), (V, fun o => o.cls = .type "dict_items" ∧ o.data = Data.fields #[.ref d]), (box, Bx sb), (sb, Sq), (T2, PK (17 + 64 * 3, [])), (T1, PK (31 * r + 58, [107, 101, 112, 116])), (U, LN (Us.map .ref)), (348, TabP []), (d, Dct c kvs), (R, LN rs), (Br, Cel (some (.ref R))), (Bw, Cel none), (Bi, Cel none), (Bb, Cel none), (Bv, Cel none), (Bn, Cel none)]) (vl := vl ++ KVL as kvs) S [6, 7, 0, 8, 9, 10, 11, 12, 13, 14, 15, 16, 17, 18, 19]
  have S : St c outer [348] hB L m3 (BxL box sb ++ ([(d2, Dct c (kvs ++ [(UNK, .ref U)])), (T2, PK (17 + 64 * 3, [])), (T1, PK (31 * r + 58, [107, 101, 112, 116])), (U, LN (Us.map .ref)), (348, TabP []), (d, Dct c kvs), (R, LN rs), (Br, Cel (some (.ref R))), (Bw, Cel none), (Bi, Cel none), (Bb, Cel none), (Bv, Cel none), (Bn, Cel none)] ++ vl)) h := S.sublist (List.Sublist.append_left (List.Sublist.append_left (List.sublist_append_left vl (KVL as kvs)) _) _)
  have vin : ∀ {X : Led}, ∀ p ∈ vl, p ∈ X ++ vl := fun p hp => List.mem_append_right _ hp
  refine x_argN ⟨S.g.X, ?_⟩
  refine spec_put_params (n := n + 7) (S.get 2 rfl) (S.off (k := Dct c (kvs ++ [(UNK, .ref U)])) rfl (List.mem_of_getElem? (i := 2) rfl)) d2s TT.dl (fun p hp => ⟨S.lat p (List.mem_append_right _ (List.mem_append_right _ hp)), S.off (k := p.2) rfl (List.mem_append_right _ (List.mem_append_right _ hp))⟩) ukv (S.get 5 rfl) (S.off (k := LN (Us.map .ref)) rfl (List.mem_of_getElem? (i := 5) rfl)) (fun p hp => ?_) eU (named_fit ixo) (fun q hq => ?_) (Nat.le_trans hun.len (by decide)) (S.cx C2 |>.le (by exact Nat.le_refl _)) S.g (fun v h t hv R9 => ?_)
  · have hm : p ∈ (BxL box sb ++ ([(d2, Dct c (kvs ++ [(UNK, .ref U)])), (T2, PK (17 + 64 * 3, [])), (T1, PK (31 * r + 58, [107, 101, 112, 116])), (U, LN (Us.map .ref)), (348, TabP []), (d, Dct c kvs), (R, LN rs), (Br, Cel (some (.ref R))), (Bw, Cel none), (Bi, Cel none), (Bb, Cel none), (Bv, Cel none), (Bn, Cel none)] ++ vl)) := by
      rcases hUs p hp with rfl | rfl
      · exact List.mem_of_getElem? (i := 4) rfl
      · exact List.mem_of_getElem? (i := 3) rfl
    exact ⟨S.lat p hm, S.off (k := p.2) rfl hm⟩
  · have := hun.hi q hq
    exact ⟨⟨by (first | lia | omega), this.2.1⟩, this.2.2⟩
  have S := S.ret0 R9
  have S := S.front 10 rfl
  refine x_storeCell rfl S (fun h S => wpC_of ?_)
  have S : St c outer [348] hB L m3 (BxL box sb ++ ([(Bw, Cel (some v)), (T2, PK (17 + 64 * 3, [])), (T1, PK (31 * r + 58, [107, 101, 112, 116])), (U, LN (Us.map .ref)), (348, TabP []), (d, Dct c kvs), (R, LN rs), (Br, Cel (some (.ref R))), (Bi, Cel none), (Bb, Cel none), (Bv, Cel none), (Bn, Cel none)] ++ vl)) h :=
    St.pickA (X := [(Bw, Cel (some v)), (box, Bx sb), (sb, Sq), (d2, Dct c (kvs ++ [(UNK, .ref U)])), (T2, PK (17 + 64 * 3, [])), (T1, PK (31 * r + 58, [107, 101, 112, 116])), (U, LN (Us.map .ref)), (348, TabP []), (d, Dct c kvs), (R, LN rs), (Br, Cel (some (.ref R))), (Bi, Cel none), (Bb, Cel none), (Bv, Cel none), (Bn, Cel none)]) S [1, 2, 0, 4, 5, 6, 7, 8, 9, 10, 11, 12, 13, 14]
  with_reducible refine x_asg ?_
  refine x_call (x_glob S (g_law_due S.g) (x_cw (K := hd.heap_1 c.w.params) (by rfl) (x_arg (x_loc S ft (x_arg (x_loc S fu (x_argN ⟨S.g.X, ?_⟩)))))))
  refine spec_law_due (n := n + 10) (S.get 7 rfl) (S.off (k := Dct c kvs) rfl (List.mem_of_getElem? (i := 7) rfl)) ds (by have := TT.len; (first | lia | omega)) (by rw [TT.dl.keys]; exact named_nodup ixo) (S.cx C2) S.g (fun e dn h t es hdn R9 => ?_)
  have S := S.ret (pre := []) R9 rfl
  refine x_store S (fun h t S => ?_)
  obtain ⟨m4, em, S⟩ := S.op
  have fb : m4 (Str.ofString "box") = some (.ref box) := by rw [em]; exact (if_neg (by decide)).trans fb
  have fu : m4 (Str.ofString "unknown") = some (.ref U) := by rw [em]; exact (if_neg (by decide)).trans fu
  have fd : m4 (Str.ofString "due") = some (.ref e) := by rw [em]; exact if_pos rfl
  clear em ft
  obtain ⟨iy, piy, eiy⟩ := enc_told ixo un
  have S : St c outer [348] hB L m4 (BxL box sb ++ ([(e, Dct c (merged (dn ++ [(DAM, .bool false), (UNK, .ref U)]) kvs)), (T2, PK (17 + 64 * 3, [])), (T1, PK (31 * r + 58, [107, 101, 112, 116])), (U, LN (Us.map .ref)), (348, TabP []), (R, LN rs), (Br, Cel (some (.ref R))), (Bw, Cel (some v)), (Bi, Cel none), (Bb, Cel none), (Bv, Cel none), (Bn, Cel none)] ++ vl)) h :=
    St.pickA (X := [(e, Dct c (merged (dn ++ [(DAM, .bool false), (UNK, .ref U)]) kvs)), (box, Bx sb), (sb, Sq), (Bw, Cel (some v)), (T2, PK (17 + 64 * 3, [])), (T1, PK (31 * r + 58, [107, 101, 112, 116])), (U, LN (Us.map .ref)), (348, TabP []), (d, Dct c kvs), (R, LN rs), (Br, Cel (some (.ref R))), (Bi, Cel none), (Bb, Cel none), (Bv, Cel none), (Bn, Cel none)]) S [1, 2, 0, 4, 5, 6, 7, 9, 10, 3, 11, 12, 13, 14]
  have hUm : ∀ p ∈ PLd Us un, ∀ {A B : Led}, p ∈ A ++ ((T2, PK (17 + 64 * 3, [])) :: (T1, PK (31 * r + 58, [107, 101, 112, 116])) :: B) := fun p hp A B => by
    rcases hUs p hp with rfl | rfl
    · exact List.mem_append_right _ (List.mem_cons_of_mem _ (List.mem_cons_self ..))
    · exact List.mem_append_right _ (List.mem_cons_self ..)
  refine x_ifE (b_read (iy := iy) (ix := ix) (un := un) (n := n + 4) (Ev.mono (e_cell rfl (fun h S => S.get 9 rfl)) fun w q => by subst q; rw [← eiy]; exact hv) e_str fd es (fun h S => Due.of S (List.mem_of_getElem? (i := 2) rfl) hdn TT.dl (fun p hp => List.mem_append_right _ (List.mem_append_right _ hp)) (List.mem_of_getElem? (i := 5) rfl) eU (fun p hp => ?_)) ixo hun piy (C2.le (by exact Nat.le_refl _))) S (fun h t q _ => by cases q) (fun h t _ S => x_nilN ?_)
  · exact hUm p hp (A := [(box, Bx sb), (sb, Sq), (e, Dct c (merged (dn ++ [(DAM, .bool false), (UNK, .ref U)]) kvs))])
  with_reducible refine x_asg ?_
  refine wpAny_BinOp ?_
  refine EvL.run (l_slice (xs := rs) (e_cell rfl (fun h S => S.get 8 rfl)) pt_none pt_none (pt_some (e_sub e_int e_int)) (by decide) (fun h S => (S.get 7 rfl : At h R (LN rs)).ln) (by have := TT.len; (first | lia | omega))) S (fun F ys h t hys f0 S => ?_)
  rw [show ((0 : Int) - 1) = -1 from rfl, krv_pick] at hys
  have hys : ys = rs.reverse := by rw [hys]
  refine x_comp (cl := []) (by with_unfolding_all rfl) ?_
  refine x_loc S fu ?_
  refine iter_list S (S.get 6 rfl : At h U (LN (Us.map .ref))).ln (fun I h I0 S _ => ?_)
  refine comp_goU Us.length (fun i zs led => led = (I, ItL U i) :: (F, LN ys) :: (BxL box sb ++ ([(e, Dct c (merged (dn ++ [(DAM, .bool false), (UNK, .ref U)]) kvs)), (T2, PK (17 + 64 * 3, [])), (T1, PK (31 * r + 58, [107, 101, 112, 116])), (U, LN (Us.map .ref)), (348, TabP []), (R, LN rs), (Br, Cel (some (.ref R))), (Bw, Cel (some v)), (Bi, Cel none), (Bb, Cel none), (Bv, Cel none), (Bn, Cel none)] ++ vl)) ∧ BL ((un.take i).map fun q => rowB q.1 q.2) zs) S ⟨rfl, .nil⟩ (by have := hun.len; (first | lia | omega)) (fun h t Q E S H => self_list S H) (fun i zs led h t CC G mC EB hi hl S hJ => ?_) (fun zs led h t CC G mC EB hl cn fn S hJ => ?_)
  · obtain ⟨rfl, hb⟩ := hJ
    obtain ⟨T, hT⟩ : ∃ T, Us[i]? = some T := ⟨_, List.getElem?_eq_getElem hi⟩
    obtain ⟨q, hq, hqm⟩ := PLd_at eU hT
    refine next_list (S.front 2 rfl) (S.get 9 rfl : At h U (LN (Us.map .ref))).ln (by rw [List.getElem?_map, hT]; rfl) (fun h S _ => ?_)
    refine own_goL S.head ?_
    obtain ⟨o, ho, uq, bq, wq, hdq, hbq⟩ := S.lat (T, PK q) (by
      rcases hUs _ hqm with e1 | e1
      · rw [e1]; exact List.mem_of_getElem? (i := 8) rfl
      · rw [e1]; exact List.mem_of_getElem? (i := 7) rfl)
    refine x_unp S ⟨o, ho, hdq⟩ C2.hd (fun h S _ => ?_)
    refine a_nameY (S.front 1 rfl) (fun h t mC1 e1 _ S => a_nameY S (fun h t mC2 e2 em2 S => a_nil ?_))
    have hq1 := hun.hi q (List.mem_of_getElem? hq)
    refine x_call (y_glob S.g (g_law_pair S.g) (x_cw (K := hd.heap_1 c.w.params) (by rfl) (x_arg (y_loc S.head ((em2 _ (by decide)).trans e1) (x_arg (y_loc S.head e2 (x_argN ⟨S.g.X, spec_law_pair (n := n + 9) (by (first | lia | omega)) hq1.2.1 hbq (by (first | lia | omega)) (S.cx C2) S.g (fun w h t hw R9 => ?_)⟩)))))))
    have S := S.ret0 R9
    obtain ⟨bw, uw, rfl, hbw⟩ := hw
    refine ⟨_, h, t, mC2, rfl, St.pickA (X := [(CC, NsP mC2), (I, ItL U (i + 1)), (G, LN zs), (F, LN ys), (box, Bx sb), (sb, Sq), (e, Dct c (merged (dn ++ [(DAM, .bool false), (UNK, .ref U)]) kvs)), (T2, PK (17 + 64 * 3, [])), (T1, PK (31 * r + 58, [107, 101, 112, 116])), (U, LN (Us.map .ref)), (348, TabP []), (R, LN rs), (Br, Cel (some (.ref R))), (Bw, Cel (some v)), (Bi, Cel none), (Bb, Cel none), (Bv, Cel none), (Bn, Cel none)]) S [0, 2, 1, 3, 4, 5, 6, 7, 8, 9, 10, 11, 12, 13, 14, 15, 16, 17], rfl, ?_⟩
    rw [List.take_succ, hq, List.map_append]
    exact hb.snoc hbw
  obtain ⟨rfl, hzs⟩ := hJ
  refine end_list (S.front 2 rfl) I0 (S.get 9 rfl : At h U (LN (Us.map .ref))).ln (List.getElem?_eq_none (by rw [List.length_map]; exact Nat.le_refl _)) C2.hd (fun h S => ?_)
  refine comp_end cn S (fun h S => ?_)
  rw [eU, List.take_length] at hzs
  have hrows := TT.bl.rev.app hzs
  rw [← hys] at hrows
  refine add_LN S S.second.ln S.head.ln (by rw [hys, List.length_reverse, hzs.len, List.length_map]; have := TT.len; have := hun.len; (first | lia | omega)) (fun R2 h R20 S => ?_)
  refine x_storeCell rfl (S.front 11 rfl) (fun h S => ?_)
  have S : St c outer [348] hB L m4 (BxL box sb ++ ([(e, Dct c (merged (dn ++ [(DAM, .bool false), (UNK, .ref U)]) kvs)), (T2, PK (17 + 64 * 3, [])), (T1, PK (31 * r + 58, [107, 101, 112, 116])), (U, LN (Us.map .ref)), (348, TabP []), (R2, LN (ys ++ zs)), (Br, Cel (some (.ref R2))), (Bw, Cel (some v)), (Bi, Cel none), (Bb, Cel none), (Bv, Cel none), (Bn, Cel none)] ++ vl)) h :=
    St.pickA (X := [(Br, Cel (some (.ref R2))), (R2, LN (ys ++ zs)), (G, LN zs), (F, LN ys), (box, Bx sb), (sb, Sq), (e, Dct c (merged (dn ++ [(DAM, .bool false), (UNK, .ref U)]) kvs)), (T2, PK (17 + 64 * 3, [])), (T1, PK (31 * r + 58, [107, 101, 112, 116])), (U, LN (Us.map .ref)), (348, TabP []), (R, LN rs), (Bw, Cel (some v)), (Bi, Cel none), (Bb, Cel none), (Bv, Cel none), (Bn, Cel none)]) S [4, 5, 6, 7, 8, 9, 10, 1, 0, 12, 13, 14, 15, 16]
  have prv : ix.reverse.Perm ix := List.reverse_perm ix
  refine x_ifE (b_or (B := (· = false)) (b_read (iy := ix.reverse) (ix := ix) (un := un) (n := n + 4) (Ev.mono (e_join (xs := ys ++ zs) (e_cell rfl (fun h S => S.get 8 rfl)) (fun h S => (S.get 7 rfl : At h R2 (LN (ys ++ zs))).ln) hrows (by rw [rows_join]; exact Nat.le_trans (enc_small (ixo.perm prv) hun) (by decide))) fun w q => by rw [rows_join] at q; exact q) e_str fd es (fun h S => Due.of S (List.mem_of_getElem? (i := 2) rfl) hdn TT.dl (fun p hp => List.mem_append_right _ (List.mem_append_right _ hp)) (List.mem_of_getElem? (i := 5) rfl) eU (fun p hp => ?_)) ixo hun prv (C2.le (by exact Nat.le_refl _)))
    (fun _ => b_empty (n := n + 4) (C2.le (by exact Nat.le_refl _)) (E1 := rfl) (E2 := rfl)) (fun q => by cases q)) S (fun h t q _ => by cases q) (fun h t _ S => x_nilN ?_)
  · exact hUm p hp (A := [(box, Bx sb), (sb, Sq), (e, Dct c (merged (dn ++ [(DAM, .bool false), (UNK, .ref U)]) kvs))])
  have bld : ∀ {m : Str → Option Value} {led h}, St c outer [348] hB L m led h → h.BuiltinsAt c.mg 348 := fun S => hbo.at (S.ext.at hbm (fun q => hbo.2.2.2 (List.mem_singleton.mp q)) nbm)
  refine x_ifRef (n := n + 7) (S.front 6 rfl) rfl (bld S) List.not_mem_nil (C2.le (by exact Nat.le_add_right _ 1)) rfl (clos := []) (by with_unfolding_all rfl) (fun f c' h S => ?_) (fun h t S => ?_) rfl
  · refine refused_read (n := n) (ks := rowB 12 [120]) (role := Str.ofString "client") S.head (S.off (k := LamK _ _ _ _ _ _) rfl (List.mem_cons_self ..)) S.second (S.off (k := CodK _) rfl (List.mem_cons_of_mem _ (List.mem_cons_self ..))) (fun pm ctv => rfl) (by decide) (by decide) (by decide) cli_flag (fun C _ => e_lpair e_int e_byt (by decide) (by decide) (by decide) (C.le (k := n + 2) (by exact Nat.le_add_right _ 5))) e_str (fun L => by with_unfolding_all rfl) (fun L => by with_unfolding_all rfl) (fun L => by with_unfolding_all rfl) (fun L => by with_unfolding_all rfl)
  have S := S.pick [1, 2, 0, 7, 8, 9, 10, 11, 12, 13]
  obtain ⟨tl1, etl1, S⟩ : ∃ tl : List (Nat × Nat), (∀ q ∈ tl, q.1 < 269) ∧ St c outer [348] hB L m4 (BxL box sb ++ [(348, TabP tl), (R2, LN (ys ++ zs)), (Br, Cel (some (.ref R2))), (Bw, Cel (some v)), (Bi, Cel none), (Bb, Cel none), (Bv, Cel none), (Bn, Cel none)]) h := ⟨_, by decide, S⟩
  clear hUm hUs eU hdn es fd fu U0
  with_reducible refine x_asg ?_
  refine x_call (x_glob S (g_law_bent S.g) (x_cw (K := hd.heap_1 c.w.params) (by rfl) (x_arg (x_loc S fb (x_argN ⟨S.g.X, ?_⟩)))))
  refine spec_law_bent (n := n + 8) (S.cx C2) S.g (S.toPre (pre := BxL box sb)) (fun lb wb h t hlb hwb R9 => ?_)
  have S := S.ret (pre := BxL box sb) (news := []) R9 rfl
  refine x_storeCell rfl (S.front 7 rfl) (fun h S => ?_)
  have S : St c outer [348] hB L m4 ((348, TabP tl1) :: (Bb, Cel (some wb)) :: (BxL box sb ++ [(R2, LN (ys ++ zs)), (Br, Cel (some (.ref R2))), (Bw, Cel (some v)), (Bi, Cel none), (Bv, Cel none), (Bn, Cel none)])) h := S.pick [3, 0, 1, 2, 4, 5, 6, 7, 8, 9]
  refine x_ifRef (n := n + 7) S rfl (bld S) (fun q => absurd (etl1 _ q) (by decide)) (C2.le (by exact Nat.le_add_right _ 1)) rfl (clos := [(Str.ofString "bent", Bb)]) (by with_unfolding_all rfl) (fun f c' h S => ?_) (fun h t S => ?_) rfl
  · refine refused_read (n := n) (ks := lb) (role := Str.ofString "server") S.head (S.off (k := LamK _ _ _ _ _ _) rfl (List.mem_cons_self ..)) S.second (S.off (k := CodK _) rfl (List.mem_cons_of_mem _ (List.mem_cons_self ..))) (fun pm ctv => rfl) (by decide) (by decide) ((by decide +kernel : ∀ l ∈ bentL, l.length ≤ 4000) lb hlb) (bent_none lb hlb)
      (fun C hold => Ev.mono (e_free (B := Bb) (v := wb) rfl (fun h S' => hold h S' Bb _ (S.get 3 rfl) (S.off (k := Cel (some wb)) rfl (List.mem_of_getElem? (i := 3) rfl)))) fun w q => q ▸ hwb) e_str (fun L => by with_unfolding_all rfl) (fun L => by with_unfolding_all rfl) (fun L => by with_unfolding_all rfl) (fun L => by with_unfolding_all rfl)
  have S : St c outer [348] hB L m4 ((348, TabP _) :: [(box, Bx sb), (sb, Sq), (R2, LN (ys ++ zs)), (Br, Cel (some (.ref R2))), (Bw, Cel (some v)), (Bi, Cel none), (Bv, Cel none), (Bn, Cel none)]) h := S.pick [0, 2, 3, 4, 5, 6, 7, 8, 9]
  obtain ⟨tl2, etl2, S⟩ : ∃ tl : List (Nat × Nat), (∀ q ∈ tl, q.1 < 272) ∧ St c outer [348] hB L m4 ((348, TabP tl) :: [(box, Bx sb), (sb, Sq), (R2, LN (ys ++ zs)), (Br, Cel (some (.ref R2))), (Bw, Cel (some v)), (Bi, Cel none), (Bv, Cel none), (Bn, Cel none)]) h := ⟨_, fun q hq => (List.mem_cons.mp hq).elim (fun e => by rw [e]; decide) (fun hq => Nat.lt_trans (etl1 q hq) (by decide)), S⟩
  clear etl1 hwb
  refine x_ifAndRef (n := n + 7) (b_neNil (e_cell rfl (fun h S => S.get 4 rfl)) (fun h S => (S.get 3 rfl : At h R2 (LN (ys ++ zs))).ln) (cx_room (k := n + 10) C2).1) S rfl (fun h S => bld S) (fun q => absurd (etl2 _ q) (by decide)) (C2.le (by exact Nat.le_add_right _ 1)) rfl (clos := [(Str.ofString "whole", Bw), (Str.ofString "rows", Br)]) (by with_unfolding_all rfl) (fun hb0 f c' h S => ?_) (fun tl3 h t htl S => ?_) rfl
  · obtain ⟨q, v0, hq, hv0, hvb⟩ := rows_first piy hrows hb0
    have hzz := enc_small (ixo.perm piy) hun
    have hq2 := small_items (ixo.perm piy) hun q hq
    have hrl := rowB_len q.1 q.2
    have hno := read_twice (ixo.perm piy) hun hq
    rw [encI_app, show encI [q] = rowB q.1 q.2 by unfold encI; simp] at hno
    refine (?_ : Refused c (n + 8) _ h f)
    refine refused_read (c := c) (hB := h) (f := f) (n := n) (ks := encI (iy.map itemOf ++ un) ++ rowB q.1 q.2) (role := Str.ofString "server") S.head ?_ S.second ?_ (fun pm ctv => rfl) (by decide) (by decide) (by rw [List.length_append]; (first | lia | omega)) hno
      (fun C hold => ?_)
      e_str (fun L => by with_unfolding_all rfl) (fun L => by with_unfolding_all rfl) (fun L => by with_unfolding_all rfl) (fun L => by with_unfolding_all rfl)
    · exact S.off (k := LamK _ _ _ _ _ _) rfl (List.mem_cons_self ..)
    · exact S.off (k := CodK _) rfl (List.mem_cons_of_mem _ (List.mem_cons_self ..))
    exact e_addB (Ev.mono (e_free (B := Bw) (v := v) rfl (fun h S' => hold h S' Bw _ (S.get 7 rfl) (S.off (k := Cel (some v)) rfl (List.mem_of_getElem? (i := 7) rfl)))) fun w q => by rw [q, ← eiy]; exact hv)
        (Ev.mono (e_idx (xs := ys ++ zs) (e_free (B := Br) (v := .ref R2) rfl (fun h S' => hold h S' Br _ (S.get 6 rfl) (S.off (k := Cel (some (.ref R2))) rfl (List.mem_of_getElem? (i := 6) rfl)))) e_int (fun h S' => At.ln (hold h S' R2 (LN (ys ++ zs)) (S.get 5 rfl) (by exact S.off (k := LN (ys ++ zs)) rfl (List.mem_of_getElem? (i := 5) rfl)))) (by decide) (by decide) hv0) fun w q => q ▸ hvb) (by (first | lia | omega))
  have etl3 : ∀ q ∈ tl3, q.1 < 276 := fun q hq => by
    rcases htl with e1 | e1
    · exact Nat.lt_trans (etl2 q (e1 ▸ hq)) (by decide)
    · rcases List.mem_cons.mp (e1 ▸ hq) with e2 | hq
      · rw [e2]; decide
      · exact Nat.lt_trans (etl2 q hq) (by decide)
  clear htl etl2 hrows
  have S : St c outer [348] hB L m4 (BxL box sb ++ [(348, TabP tl3), (Bi, Cel none), (Bv, Cel none), (Bn, Cel none)]) h := S.pick [1, 2, 0, 6, 7, 8]
  refine x_asgT (Subscript_ (x_lstQ ?_))
  refine x_arg (x_tupQ (x_arg (i_int fun ua t => x_arg (S.run (e_byt (ks := [105, 100])) (fun w h t q S => ?_)))))
  obtain ⟨ba, va, rfl, hba⟩ := q
  refine x_argN (mk_tupQ S (Nat.le_of_ble_eq_true rfl) (fun Ta h ta0 S _ => ?_))
  refine x_arg (x_tupQ (x_arg (i_int fun ub t => x_arg (S.run (e_bytes (e_blt fun h g => b_bytes g) (l_rep1 e_int (fun F ys => e_int) (by decide) (by decide)) (by decide : ∀ k ∈ List.replicate (16 : Int).toNat (3 : Int), 0 ≤ k ∧ k < 256) (by decide) C2.hd) (fun w h t q S => ?_)))))
  obtain ⟨bb, vb, rfl, hbb⟩ := q
  refine x_argN (mk_tupQ S (Nat.le_of_ble_eq_true rfl) (fun Tb h tb0 S _ => ?_))
  refine x_arg (x_tupQ (x_arg (i_int fun uc t => x_arg (S.run (e_byt (ks := [])) (fun w h t q S => ?_)))))
  obtain ⟨bc, vc, rfl, hbc⟩ := q
  refine x_argN (mk_tupQ S (Nat.le_of_ble_eq_true rfl) (fun Tc h tc0 S _ => ?_))
  refine x_argN (mk_listN S (Nat.le_of_ble_eq_true rfl) (fun F5 h f50 S _ => ?_))
  have S : St c outer [348] hB L m4 (BxL box sb ++ [(F5, LN [.ref Ta, .ref Tb, .ref Tc]), (Tc, Tup [.int 16 uc, .bytes bc vc]), (Tb, Tup [.int 2 ub, .bytes bb vb]), (Ta, Tup [.int 0 ua, .bytes ba va]), (348, TabP tl3), (Bi, Cel none), (Bv, Cel none), (Bn, Cel none)]) h := S.pick [4, 5, 0, 1, 2, 3, 6, 7, 8, 9]
  refine S.run (e_modK (e_nextW (e_loc fb) C1)) (fun w h t q S => ?_)
  obtain ⟨j2, uj2, rfl, j20, j23⟩ := q
  obtain ⟨T5, q5, k5u, b5, w5, hT5, hq5, hT5t, hb5⟩ : ∃ T5 q5 k5u b5 w5, [Value.ref Ta, .ref Tb, .ref Tc][j2.toNat]? = some (.ref T5) ∧ q5 ∈ menuL ∧ At h T5 (Tup [.int q5.1 k5u, .bytes b5 w5]) ∧ KBw.bInts b5 = q5.2 := by
    have : j2 = 0 ∨ j2 = 1 ∨ j2 = 2 := ilt3 j20 j23
    rcases this with rfl | rfl | rfl
    · exact ⟨Ta, (0, [105, 100]), ua, ba, va, rfl, List.mem_cons_self .., S.get 5 rfl, hba⟩
    · exact ⟨Tb, (2, [3, 3, 3, 3, 3, 3, 3, 3, 3, 3, 3, 3, 3, 3, 3, 3]), ub, bb, vb, rfl, List.mem_cons_of_mem _ (List.mem_cons_self ..), S.get 4 rfl, hbb⟩
    · exact ⟨Tc, (16, []), uc, bc, vc, rfl, List.mem_cons_of_mem _ (List.mem_cons_of_mem _ (List.mem_cons_self ..)), S.get 3 rfl, hbc⟩
  refine i_lstT (S.get 2 rfl : At h F5 (LN [.ref Ta, .ref Tb, .ref Tc])).ln j20 (by (first | lia | omega)) hT5 ?_
  refine x_unp S hT5t C2.hd (fun h S _ => ?_)
  refine a_cell rfl (S.front 9 rfl) (fun h S => ?_)
  refine a_cell rfl (S.front 9 rfl) (fun h S => a_nil ?_)
  have S : St c outer [348] hB L m4 ((348, TabP tl3) :: [(Bn, Cel (some (.int q5.1 k5u))), (Bv, Cel (some (.bytes b5 w5))), (Bi, Cel none)]) h := S.pick [8, 1, 0, 9]
  have m5 := (by decide +kernel : ∀ q ∈ menuL, (0 ≤ q.1 ∧ q.1 < 2 ^ 62) ∧ q.2.length ≤ 100) q5 hq5
  refine x_ifRef (n := n + 7) S rfl (bld S) (fun q => absurd (etl3 _ q) (by decide)) (C2.le (by exact Nat.le_add_right _ 1)) rfl (clos := [(Str.ofString "value", Bv), (Str.ofString "number", Bn)]) (by with_unfolding_all rfl) (fun f c' h S => ?_) (fun h t S => ?_) rfl
  · refine (?_ : Refused c (n + 8) _ h f)
    refine refused_read (c := c) (hB := h) (f := f) (n := n) (ks := rowB q5.1 q5.2) (role := Str.ofString "client") S.head (S.off (k := LamK _ _ _ _ _ _) rfl (List.mem_cons_self ..)) S.second (S.off (k := CodK _) rfl (List.mem_cons_of_mem _ (List.mem_cons_self ..))) (fun pm ctv => rfl) (by decide) (by decide) (by have := rowB_len q5.1 q5.2; (first | lia | omega)) (cli_menu q5 hq5)
      (fun C hold => e_lpair (Ev.mono (e_free (B := Bn) (v := .int q5.1 k5u) rfl (fun h S' => hold h S' Bn _ (S.get 3 rfl) (S.off (k := Cel (some (.int q5.1 k5u))) rfl (List.mem_of_getElem? (i := 3) rfl)))) fun w q => ⟨k5u, q⟩) (Ev.mono (e_free (B := Bv) (v := .bytes b5 w5) rfl (fun h S' => hold h S' Bv _ (S.get 4 rfl) (S.off (k := Cel (some (.bytes b5 w5))) rfl (List.mem_of_getElem? (i := 4) rfl)))) fun w q => ⟨b5, w5, q, hb5⟩) m5.1.1 m5.1.2 (by (first | lia | omega)) (C.le (k := n + 2) (by exact Nat.le_add_right _ 5)))
      e_str (fun L => by with_unfolding_all rfl) (fun L => by with_unfolding_all rfl) (fun L => by with_unfolding_all rfl) (fun L => by with_unfolding_all rfl)
  have S : St c outer [348] hB L m4 [(348, TabP _), (Bi, Cel none)] h := S.pick [0, 3]
  obtain ⟨tl4, etl4, S⟩ : ∃ tl : List (Nat × Nat), (∀ q ∈ tl, q.1 < 283) ∧ St c outer [348] hB L m4 [(348, TabP tl), (Bi, Cel none)] h := ⟨_, fun q hq => (List.mem_cons.mp hq).elim (fun e => by rw [e]; decide) (fun hq => Nat.lt_trans (etl3 q hq) (by decide)), S⟩
  clear etl3 hT5t hq5 m5
  with_reducible refine x_asg ?_
  with_reducible refine x_dictS S (fun e h e0 es S _ => ?_)
  with_reducible refine x_pair ?_
  with_reducible refine i_str (fun _ _ => ?_)
  with_reducible refine i_bytes (fun uo _ => ?_)
  with_reducible refine x_pair ?_
  with_reducible refine i_str (fun _ _ => ?_)
  with_reducible refine i_bytes (fun ut _ => ?_)
  with_reducible refine x_pairN ?_
  with_reducible refine mk_dictS S (by with_unfolding_all rfl) (by with_unfolding_all exact (show [Str.ofString "initial_source_connection_id", Str.ofString "original_destination_connection_id"].Nodup by decide +kernel)) (fun h t S => ?_)
  obtain ⟨b1, b2, hb1, hb2, S⟩ : ∃ b1 b2, KBw.bInts b1 = [111, 110, 101] ∧ KBw.bInts b2 = [116, 119, 111] ∧ St c outer [348] hB L m4 [(e, Dct c [(Str.ofString "initial_source_connection_id", .bytes b1 uo), (Str.ofString "original_destination_connection_id", .bytes b2 ut)]), (348, TabP tl4), (Bi, Cel none)] h := ⟨_, _, rfl, rfl, S⟩
  refine x_storeCell rfl (S.front 2 rfl) (fun h S => ?_)
  have S : St c outer [348] hB L m4 [(348, TabP tl4), (e, Dct c [(Str.ofString "initial_source_connection_id", .bytes b1 uo), (Str.ofString "original_destination_connection_id", .bytes b2 ut)]), (Bi, Cel (some (.ref e)))] h := S.pick [2, 1, 0]
  have oi : OB (some [111, 110, 101]) (idAt [(Str.ofString "initial_source_connection_id", .bytes b1 uo), (Str.ofString "original_destination_connection_id", .bytes b2 ut)] "initial_source_connection_id") := .some uo hb1
  have oo : OB (some [116, 119, 111]) (idAt [(Str.ofString "initial_source_connection_id", .bytes b1 uo), (Str.ofString "original_destination_connection_id", .bytes b2 ut)] "original_destination_connection_id") := .some ut hb2
  have oR : OB none (idAt [(Str.ofString "initial_source_connection_id", .bytes b1 uo), (Str.ofString "original_destination_connection_id", .bytes b2 ut)] "retry_source_connection_id") := .none
  obtain ⟨dv, hdv⟩ : ∃ dv, dv = [(Str.ofString "initial_source_connection_id", Value.bytes b1 uo), (Str.ofString "original_destination_connection_id", Value.bytes b2 ut)] := ⟨_, rfl⟩
  rw [← hdv] at oi oo oR S
  clear hdv hb1 hb2
  with_reducible refine x_asg ?_
  refine x_lstQ (x_arg (S.run (e_checked (n := n + 7) (kvs := dv) (e_cell rfl (fun h S => S.get 2 rfl)) (fun h S => ⟨S.get 1 rfl, by exact S.off (k := Dct c dv) rfl (List.mem_of_getElem? (i := 1) rfl)⟩) es e_str (Ev.toOB (e_byt (ks := [116, 119, 111]))) (Ev.toOB (e_byt (ks := [111, 110, 101]))) e_noneO oi oo oR (by decide) (C2.le (by exact Nat.le_refl _))) (fun v h t q S => ?_)))
  subst q
  refine x_arg (S.run (e_checked (n := n + 7) (kvs := dv) (e_cell rfl (fun h S => S.get 2 rfl)) (fun h S => ⟨S.get 1 rfl, by exact S.off (k := Dct c dv) rfl (List.mem_of_getElem? (i := 1) rfl)⟩) es e_str (Ev.toOB (e_byt (ks := []))) (Ev.toOB (e_byt (ks := [111, 110, 101]))) (Ev.toOB (e_byt (ks := [114]))) oi oo oR (by decide) (C2.le (by exact Nat.le_refl _))) (fun v h t q S => ?_))
  subst q
  refine x_argN (mk_listN S (Nat.le_of_ble_eq_true rfl) (fun AN h an0 S _ => ?_))
  refine x_store S (fun h t S => ?_)
  obtain ⟨m5, em, S⟩ := S.op
  have fa : m5 (Str.ofString "answers") = some (.ref AN) := by rw [em]; exact if_pos rfl
  clear em
  refine x_ifE (b_neSame (e_loc fa) (fun h S => (S.get 0 rfl : At h AN (LN [.none, .none])).ln) (l_disp (.mk fun S K => x_arg (i_none (x_arg (i_none (x_argN (K _ _ _ rfl S)))))) (fun vs q => by rw [q]; decide)) (cx_room (k := n + 10) C2).1) S (fun h t q _ => by cases q) (fun h t _ S => x_nilN ?_)
  have S : St c outer [348] hB L m5 [(348, TabP tl4), (e, Dct c dv), (Bi, Cel (some (.ref e)))] h := S.drop 1
  refine x_ifRef (n := n + 7) S rfl (bld S) (fun q => absurd (etl4 _ q) (by decide)) (C2.le (by exact Nat.le_add_right _ 1)) rfl (clos := [(Str.ofString "ids", Bi)]) (by with_unfolding_all rfl) (fun f c' h S => ?_) (fun h t S => ?_) rfl
  · refine (?_ : Refused c (n + 8) _ h f)
    refine refused_ids (c := c) (hB := h) (f := f) (n := n) (kvs := dv) (role := Str.ofString "server") (original := some [116, 119, 111]) (source := some [111, 110, 101]) (retry := some [114]) S.head (S.off (k := LamK _ _ _ _ _ _) rfl (List.mem_cons_self ..)) S.second (S.off (k := CodK _) rfl (List.mem_cons_of_mem _ (List.mem_cons_self ..))) (fun pm ctv => rfl) (by decide) oi oo oR (by decide)
      (fun C hold off => darg_old (B := Bi) (d := e) rfl (fun h S' => hold h S' Bi _ (S.get 4 rfl) (by exact S.off (k := Cel (some (.ref e))) rfl (List.mem_of_getElem? (i := 4) rfl))) (fun h S' => hold h S' e _ (S.get 3 rfl) (by exact S.off (k := Dct c dv) rfl (List.mem_of_getElem? (i := 3) rfl))) (off e _ (S.get 3 rfl) (by exact S.off (k := Dct c dv) rfl (List.mem_of_getElem? (i := 3) rfl))) es)
      e_str (Ev.toOB (e_byt (ks := [116, 119, 111]))) (Ev.toOB (e_byt (ks := [111, 110, 101]))) (Ev.toOB (e_byt (ks := [114]))) (fun L => by with_unfolding_all rfl) (fun L e r q => by rcases q with q | q | q | q | q <;> (cases q; with_unfolding_all rfl)) (fun L => by with_unfolding_all rfl)
  obtain ⟨tl5, etl5, S⟩ : ∃ tl : List (Nat × Nat), (∀ q ∈ tl, q.1 < 286) ∧ St c outer [348] hB L m5 [(348, TabP tl), (e, Dct c dv), (Bi, Cel (some (.ref e)))] h := ⟨_, fun q hq => (List.mem_cons.mp hq).elim (fun e => by rw [e]; decide) (fun hq => Nat.lt_trans (etl4 q hq) (by decide)), S⟩
  refine x_retRefs (n := n + 7) S rfl bld (fun q => absurd (etl5 _ q) (by decide)) (fun q => (List.mem_cons.mp q).elim (fun e => absurd e (by decide)) fun q => absurd (etl5 _ q) (by decide)) (C2.le (by exact Nat.le_add_right _ 1)) rfl (clos := [(Str.ofString "ids", Bi)]) (by with_unfolding_all rfl) rfl (clos2 := []) (by with_unfolding_all rfl) (fun f c' h S => ?_) (fun tl f c' h S => ?_) (fun tl h t S => ?_) rfl rfl
  · refine (?_ : Refused c (n + 8) _ h f)
    refine refused_ids (c := c) (hB := h) (f := f) (n := n) (kvs := dv) (role := Str.ofString "server") (original := some [116, 119]) (source := some [111, 110, 101]) (retry := none) S.head (S.off (k := LamK _ _ _ _ _ _) rfl (List.mem_cons_self ..)) S.second (S.off (k := CodK _) rfl (List.mem_cons_of_mem _ (List.mem_cons_self ..))) (fun pm ctv => rfl) (by decide) oi oo oR (by decide)
      (fun C hold off => darg_old (B := Bi) (d := e) rfl (fun h S' => hold h S' Bi _ (S.get 4 rfl) (by exact S.off (k := Cel (some (.ref e))) rfl (List.mem_of_getElem? (i := 4) rfl))) (fun h S' => hold h S' e _ (S.get 3 rfl) (by exact S.off (k := Dct c dv) rfl (List.mem_of_getElem? (i := 3) rfl))) (off e _ (S.get 3 rfl) (by exact S.off (k := Dct c dv) rfl (List.mem_of_getElem? (i := 3) rfl))) es)
      e_str (Ev.toOB (e_byt (ks := [116, 119]))) (Ev.toOB (e_byt (ks := [111, 110, 101]))) e_noneO (fun L => by with_unfolding_all rfl) (fun L e r q => by rcases q with q | q | q | q | q <;> (cases q; with_unfolding_all rfl)) (fun L => by with_unfolding_all rfl)
  · refine (?_ : Refused c (n + 8) _ h f)
    refine refused_ids (c := c) (hB := h) (f := f) (n := n) (kvs := []) (role := Str.ofString "client") (original := some []) (source := some [111, 110, 101]) (retry := none) (i := none) (o := none) (r := none) S.head (S.off (k := LamK _ _ _ _ _ _) rfl (List.mem_cons_self ..)) S.second (S.off (k := CodK _) rfl (List.mem_cons_of_mem _ (List.mem_cons_self ..))) (fun pm ctv => rfl) (by decide) .none .none .none (by decide)
      (fun C hold off => darg_new)
      e_str (Ev.toOB (e_byt (ks := []))) (Ev.toOB (e_byt (ks := [111, 110, 101]))) e_noneO (fun L => by with_unfolding_all rfl) (fun L e r q => by rcases q with q | q | q | q | q <;> (cases q; with_unfolding_all rfl)) (fun L => by with_unfolding_all rfl)
  have R := (S.pick [0]).done (post := [(348, TabP tl)]) (news := []) rfl

  exact hQ _ (Mk s h t) (K _ _ _ R)


-- F58
theorem g_law {c : Ct} {h : Heap} (g : G c h) : c.mg (Str.ofString "law") = some (.ref 351) := mg_at g (by rfl)
theorem ints_of {cl : Str → Option Addr} {R : WRecords} {ns : List Int} : ∀ {vs : List Value} {as : List Addr}, ReadsAllW R cl h vs (ns.map .int) as → Ints vs ∧ vs.length = ns.length := by
  induction ns with
  | nil => intro vs as hr; rw [(readsAllW_nil_inv hr).1]; exact ⟨fun v hv => (nomatch hv), rfl⟩
  | cons d ns ih =>
    intro vs as hr
    obtain ⟨v, vs', _, _, e, _, h1, h2⟩ := readsAllW_cons_inv hr
    obtain ⟨t, ev, _⟩ := readsW_int_inv h1
    obtain ⟨a, b⟩ := ih h2
    rw [e, List.length_cons, List.length_cons, b]
    exact ⟨fun u hu => (List.mem_cons.mp hu).elim (fun q => ⟨d, t, q.trans ev⟩) (a u), rfl⟩
noncomputable def SpecLaw : Prop := ∀ {c : Ct} {n : Nat} {A : Around} {Q E : Value → Shared → Prop} {s : Shared} {t : Nat} {hB : Heap} {W bm : Addr} {ws : List Value}, At hB W (Lst ws) → W ∉ fsOf [] → Ints ws → ws.length ≤ 63 → (c.mg (Str.ofString "__builtins__") = some (.ref bm) ∧ bm ≠ builtinsNs ∧ bm ≠ mainGlobals ∧ bm ≠ 348) → At hB bm (fun o => o.cls = .type "module" ∧ o.dict = some builtinsNs ∧ o.data = .plain) → bm ∉ fsOf [] → Cx c (n + 12) A [] hB none → G c hB → Pre c (fsOf []) hB [(348, TabP [])] →
    (∀ ls h' t', Ret c (fsOf []) hB [(348, TabP ls)] [] h' → Q (.bool true) (Mk s h' t')) → wpC (model pw c.w) A (call (.ref 351) [.ref W]) Q E (Mk s hB t)
theorem law_args {args : List WData} (hpre : PySem.Challenge.rw_no0078_01.row.toRowW.claim.pre args = true) : ∃ ns : List Int, args = [.list (ns.map .int)] ∧ ns.length ≤ 63 := by
  obtain ⟨hsh, hco⟩ := pre_splitW hpre
  clear hpre
  obtain ⟨ns, rfl⟩ : ∃ ns : List Int, args = [.list (ns.map .int)] := by
    match args, hsh with
    | [], hsh => exact absurd hsh (by decide)
    | [d], hsh =>
      have h1 : (WShape.has [] d (.list .int) && true) = true := hsh
      rw [Bool.and_true] at h1
      obtain ⟨xs, rfl, h2⟩ := hasW_list h1
      obtain ⟨ns, rfl⟩ := items_int h2
      exact ⟨ns, rfl⟩
    | d :: d2 :: r, hsh =>
      have h1 : (WShape.has [] d (.list .int) && WShape.hasAll [] (d2 :: r) []) = true := hsh
      rw [Bool.and_eq_true] at h1
      exact absurd h1.2 (by unfold WShape.hasAll; exact fun q => nomatch q)
  refine ⟨ns, rfl, ?_⟩
  obtain ⟨h1, h2⟩ := holds_andW hco
  have h3 : (match (some (WData.bool !(decide ((63 : Int) < ((ns.map WData.int).length : Int)))) : Option WData) with | some (.bool true) => true | _ => false) = true := h1
  rw [List.length_map] at h3
  by_cases q : (63 : Int) < (ns.length : Int)
  · rw [decide_eq_true q] at h3; cases h3
  · exact Int.ofNat_le.mp (Int.not_lt.mp q)
theorem list_of {cl : Str → Option Addr} {R : WRecords} {ns : List Int} {vals : List Value} {as : List Addr} (hr : ReadsAllW R cl h vals [.list (ns.map .int)] as) : ∃ W ws, vals = [.ref W] ∧ At h W (Lst ws) ∧ Ints ws ∧ ws.length = ns.length := by
  obtain ⟨v, vs', _, _, e, _, h1, h2⟩ := readsAllW_cons_inv hr
  obtain ⟨W, ws, _, ev, ⟨o, ho, hc, n, hd⟩, hi, _⟩ := readsW_list_inv h1
  exact ⟨W, ws.toList, by rw [e, ev, (readsAllW_nil_inv h2).1], ⟨o, ho, hc, n, by rw [hd, Array.toArray_toList]⟩, ints_of hi⟩
theorem good_law {w : World} {mg mb : Str → Option Value} {cl : Str → Option Addr} {mean : ExcName → Option Value} {args : List WData} {s₁ : Shared} {ls : List (Nat × Nat)} {h' : Heap} {t' : Nat} (g : G ⟨s₁.heap, w, mg, mb⟩ s₁.heap) (KT : s₁.heap.get? 348 = some (tabObj #[])) (hT : At s₁.heap 348 (TabP [])) (hg : s₁.gens = #[])
    (R : Ret ⟨s₁.heap, w, mg, mb⟩ (fsOf []) s₁.heap [(348, TabP ls)] [] h') : GoodWG PySem.Challenge.rw_no0078_01.row.toRowW.claim cl mean args s₁ (.ok (.ret (.bool true))) (Mk s₁ h' t') := by
  refine ⟨.inl ⟨_, .bool true, [], rfl, fun _ => rfl, .bool true, ?_, fun _ => ⟨List.nodup_nil, fun a h => nomatch h⟩⟩, ⟨fun b o e => ?_, fun b o e => R.ext.live e⟩, rfl, ?_⟩
  · refine postC_of (X := true) (by first | rfl | simp [WShape.has, WShape.arms]) ?_ rfl
    exact congrArg (fun b => some (WData.bool b)) (same_self (WData.bool true))
  · by_cases q : b = 348
    · subst q
      rw [KT] at e; cases e
      obtain ⟨o', e', ps, rfl, _⟩ := R.pat _ (List.mem_cons_self ..)
      refine .inr (.inl ⟨?_, rfl, #[], ps, rfl, by show h'.get? 348 = _; rw [e']; simp⟩)
      obtain ⟨o, vs, _, _, _, _, _, _, _, q1, q2, q3, q4, _⟩ := law_code (ls := []) g hT
      exact ⟨350, o, vs, q1, q2, q3, q4⟩
    · exact .inl (R.ext.low e (by show s₁.heap.get? b ≠ none; rw [e]; exact fun q => nomatch q) q)
  · show AllBare s₁.gens
    rw [hg]; exact AllBare.empty
theorem bm_ne {bm : Addr} {ob : Obj} {c : Ct} (g : G c h) (KT : h.get? 348 = some (tabObj #[])) (m3 : h.get? bm = some ob) (m6 : ob.data = .plain) : bm ≠ mainGlobals ∧ bm ≠ 348 := by
  refine ⟨fun q => ?_, fun q => ?_⟩
  · subst q
    obtain ⟨o, es, ep, e, d, _⟩ := g.T.g
    rw [m3] at e; cases e; rw [m6] at d; cases d
  · subst q
    rw [m3] at KT; cases KT; cases m6
theorem ns_some {a : Addr} {m : Str → Option Value} (n : h.Ns a m) : h.get? a ≠ none := by
  obtain ⟨o, _, _, e, _⟩ := n
  rw [e]; exact fun q => nomatch q
set_option maxHeartbeats 4000000 in
theorem bridge (SL : SpecLaw) : PySem.Challenge.rw_no0078_01.Holds := by
  refine hd ⟨left, fun w s₀ s₁ mg mb Gr Y fa o pm cd doc dV kV ho hdt hcd hD hmg hg args vals as hpre hlay hrd hwl hlo => ?_⟩
  clear ho hdt hcd hD hlay hwl hlo
  have KT := km_tabs_of Y 348 (List.mem_cons_self ..)
  have g : G ⟨s₁.heap, w, mg, mb⟩ s₁.heap := ⟨km_in_of Y, topRead_of Gr.T, km_in_of Y, ns_some Gr.T.b, fun b o e => ⟨o, e⟩⟩
  obtain ⟨bm, ob, m1, m2, m3, m4, m5, m6⟩ := Gr.T.bmain
  obtain ⟨n1, n2⟩ := bm_ne g KT m3 m6
  clear Gr Y
  obtain rfl : fa = 351 := by
    have e := hmg.symm.trans (g_law g)
    injection e with e
    injection e
  obtain ⟨ns, rfl, hz⟩ := law_args hpre
  obtain ⟨W, ws, rfl, hW, hi, hl⟩ := list_of hrd
  have hT : At s₁.heap 348 (TabP []) := ⟨_, KT, #[], rfl, trivial, fun _ _ => rfl⟩
  have P : Pre ⟨s₁.heap, w, mg, mb⟩ (fsOf []) s₁.heap [(348, TabP [])] := ⟨fun p hp => by rw [List.mem_singleton.mp hp]; exact hT, by simp, fun b hb => (nomatch hb), fun p hp => .inr (by rw [List.mem_singleton.mp hp])⟩
  exact SL (n := 0) (s := s₁) (t := s₁.toks) hW (fun q => nomatch q) hi (by rw [hl]; exact hz) ⟨m1, m2, n1, n2⟩ ⟨ob, m3, m4, m5, m6⟩ (fun q => nomatch q) ⟨rfl, by decide, by decide, rfl, trivial⟩ g P (fun ls h' t' R => good_law g KT hT hg R)


-- F60
theorem law_all : SpecLaw := fun hW nW hi hz hbo hbm nbm C g P K => spec_law hW nW hi hz hbo hbm nbm C g P K
theorem cw_holds : PySem.Challenge.rw_no0078_01.Holds := bridge law_all


end
end Mine

theorem PySem.Challenge.cw_no0078_01_holds : PySem.Challenge.rw_no0078_01.Holds :=
  Mine.cw_holds
